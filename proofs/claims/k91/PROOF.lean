import PyProof.Rows.All
import Wide.All
import OpenK.AllK
import Wide.FinOn
import HandS.ForMost
import HandS.Evl
import HandS.TupAny
import HandS.Style
import HandS.Base
import HandS.Call
import HandS.Exc
import HandS.ExcOwn
import HandS.IsInst
import HandS.Property
import HandS.ForExc
import HandS.ExcInit
import HandS.ExcField
import HandS.ExcIs
import KE.KExcSuper
import KE.KSuper
import HandS.IterNext
import KE.KExcIs
import KE.KOwnIter
import OpenK.KMeth
import HandS.More
import PyProof.FactsSeq
import HandS.SortInts
import HandS.Iter
import KE.GoesMore
import PyProof.EnumMake
import HandS.TupSets
import HandS.Deep
import HandS.Conv
import PySem.Challenge.RW_everystepstands_k91_orders_by_neighbours
set_option Elab.async false
set_option linter.all false
set_option maxRecDepth 100000
set_option maxHeartbeats 2000000
/-! Z: data (what a value stands for, by PyData), what evaluates to what datum. -/
namespace Z
open PySem L2
open Evl (Ex)
/-! ### data that stand in the heap stay when it grows -/
mutual
theorem dp_mono {K : PySem.W.Frag} {G H : Hp} (e : Ex G H) : ∀ (d : PyData) (v : V), Dp K G v d → Dp K H v d
  | .none, _, h => by cases h; exact .non
  | .bool b, _, h => by cases h; exact .bl b
  | .int i, _, h => by cases h; exact .int i
  | .str x, _, h => by cases h; exact .str x
  | .list ds, _, h => by
    cases h with
    | lst hs ha => exact .lst (Evl.ex_l e hs) (dpa_mono e ds _ ha)
  | .tuple ds, _, h => by
    cases h with
    | tup hs ha => exact .tup (Evl.ex_t e hs) (dpa_mono e ds _ ha)
  | .dict _, _, h => by cases h
theorem dpa_mono {K : PySem.W.Frag} {G H : Hp} (e : Ex G H) : ∀ (ds : List PyData) (vs : List V), DpAll K G vs ds → DpAll K H vs ds
  | [], _, h => by cases h; exact .nil
  | d :: ds, _, h => by
    cases h with
    | cons a b => exact .cons (dp_mono e d _ a) (dpa_mono e ds _ b)
end
mutual
def immut : PyData → Bool
  | .list _ => false
  | .dict _ => false
  | .tuple ds => immuts ds
  | _ => true
def immuts : List PyData → Bool
  | [] => true
  | d :: ds => immut d && immuts ds
end
/-- the tuples of G stand in H -/
def Tups (G H : Hp) : Prop := ∀ a xs, Rd G a (.tup xs) → Rd H a (.tup xs)
mutual
theorem dp_imm {K : PySem.W.Frag} {G H : Hp} (e : Tups G H) : ∀ (d : PyData) (v : V), immut d = true → Dp K G v d → Dp K H v d
  | .none, _, _, h => by cases h; exact .non
  | .bool b, _, _, h => by cases h; exact .bl b
  | .int i, _, _, h => by cases h; exact .int i
  | .str x, _, _, h => by cases h; exact .str x
  | .list ds, _, i, h => by cases i
  | .tuple ds, _, i, h => by
    cases h with
    | tup hs ha =>
      refine .tup ?_ (dpa_imm e ds _ i ha)
      rcases hs with hs | hs
      · exact .inl (e _ _ hs)
      · exact .inr hs
  | .dict _, _, _, h => by cases h
theorem dpa_imm {K : PySem.W.Frag} {G H : Hp} (e : Tups G H) : ∀ (ds : List PyData) (vs : List V), immuts ds = true → DpAll K G vs ds → DpAll K H vs ds
  | [], _, _, h => by cases h; exact .nil
  | d :: ds, _, i, h => by
    have i' : immut d = true ∧ immuts ds = true := by simpa [immuts] using i
    cases h with
    | cons a b => exact .cons (dp_imm e d _ i'.1 a) (dpa_imm e ds _ i'.2 b)
end
theorem Tups.ex {G H : Hp} (e : Ex G H) : Tups G H := fun _ _ h => Evl.ex_rd e h
theorem Tups.trans {G H J : Hp} (e : Tups G H) (f : Tups H J) : Tups G J := fun _ _ h => f _ _ (e _ _ h)
theorem Tups.upd {H : Hp} {p : Addr} {xs : List V} {o : HO} (h : H p = some (.lst xs)) : Tups H (upd H p o) := fun a ys r => by
  rcases r with r | ⟨ob, r⟩
  · refine .inl ?_
    rw [upd_ne (ne_of r h (by intro z; cases z))]
    exact r
  · refine .inr ⟨ob, ?_⟩
    rw [upd_ne (ne_of r h (by intro z; cases z))]
    exact r
theorem Tups.del {H : Hp} {p : Addr} {xs : List V} (h : H p = some (.lst xs)) : Tups H (fun b => if b = p then none else H b) := fun a ys r => by
  rcases r with r | ⟨ob, r⟩
  · exact .inl ((if_neg (ne_of r h (by intro z; cases z))).trans r)
  · exact .inr ⟨ob, (if_neg (ne_of r h (by intro z; cases z))).trans r⟩
theorem _root_.L2.Dp.mono {K : PySem.W.Frag} {G H : Hp} {d : PyData} {v : V} (e : Ex G H) (h : Dp K G v d) : Dp K H v d := dp_mono e d v h
/-! ### types as data -/
/-- a tuple of any length -/
def Tp (α : Type) := List α
class Dat (α : Type) where
  enc : α → PyData
class Flat (α : Type) [Dat α] : Prop where
  imm : ∀ x : α, immut (Dat.enc x) = true
/-- data whose equality is Python's -/
class DatEq (α : Type) [Dat α] [DecidableEq α] : Prop where
  lay : ∀ x : α, (Dat.enc x).canLay0 = true
  eqv : ∀ x y : α, PyData.eqv (Dat.enc x) (Dat.enc y) = decide (x = y)
class Deep (α : Type) [Dat α] (n : outParam Nat) : Prop where
  dep : ∀ x : α, (Dat.enc x).depth ≤ n
open Dat
instance : Dat Unit := ⟨fun _ => .none⟩
instance : Dat Int := ⟨.int⟩
instance : Dat Bool := ⟨.bool⟩
instance : Dat Str := ⟨.str⟩
instance {α} [Dat α] : Dat (List α) := ⟨fun xs => .list (xs.map enc)⟩
instance {α} [Dat α] : Dat (Tp α) := ⟨fun xs => .tuple (List.map enc xs)⟩
instance {α β} [Dat α] [Dat β] : Dat (α × β) := ⟨fun x => .tuple [enc x.1, enc x.2]⟩
instance {α} [DecidableEq α] : DecidableEq (Tp α) := inferInstanceAs (DecidableEq (List α))
instance : Flat Unit := ⟨fun _ => rfl⟩
instance : Flat Int := ⟨fun _ => rfl⟩
instance : Flat Bool := ⟨fun _ => rfl⟩
instance : Flat Str := ⟨fun _ => rfl⟩
theorem immuts_map {α} [Dat α] [Flat α] : ∀ xs : List α, immuts (xs.map enc) = true
  | [] => rfl
  | x :: xs => by
    show (immut (enc x) && immuts (xs.map enc)) = true
    rw [Flat.imm, immuts_map xs] <;> rfl
instance {α} [Dat α] [Flat α] : Flat (Tp α) := ⟨fun xs => immuts_map (α := α) xs⟩
instance {α β} [Dat α] [Dat β] [Flat α] [Flat β] : Flat (α × β) := ⟨fun x => by
  show (immut (enc x.1) && (immut (enc x.2) && true)) = true
  rw [Flat.imm, Flat.imm] <;> rfl⟩
abbrev Rep (K : PySem.W.Frag) {α : Type} [Dat α] (H : Hp) (v : V) (x : α) : Prop := Dp K H v (enc x)
abbrev Reps (K : PySem.W.Frag) {α : Type} [Dat α] (H : Hp) (vs : List V) (xs : List α) : Prop := DpAll K H vs (xs.map enc)
section
variable {K : PySem.W.Frag} {G H : Hp} {v : V} {α β : Type} [Dat α] [Dat β]
theorem Reps.mono {vs : List V} {xs : List α} (e : Ex G H) (h : Reps K G vs xs) : Reps K H vs xs := dpa_mono e _ _ h
theorem _root_.L2.Dp.imm [Flat α] {x : α} (e : Tups G H) (h : Rep K G v x) : Rep K H v x := dp_imm e _ _ (Flat.imm x) h
theorem Reps.imm [Flat α] {vs : List V} {xs : List α} (e : Tups G H) (h : Reps K G vs xs) : Reps K H vs xs := dpa_imm e _ _ (immuts_map xs) h
theorem Rep.int {i : Int} (h : Rep K H v i) : v = .int i := by
  have h' : Dp K H v (.int i) := h
  cases h'; rfl
theorem Rep.bool {b : Bool} (h : Rep K H v b) : v = .bl b := by
  have h' : Dp K H v (.bool b) := h
  cases h'; rfl
theorem Rep.str {b : Str} (h : Rep K H v b) : v = .str b := by
  have h' : Dp K H v (.str b) := h
  cases h'; rfl
theorem Rep.unit {b : Unit} (h : Rep K H v b) : v = .non := by
  have h' : Dp K H v .none := h
  cases h'; rfl
theorem rep_int (i : Int) : Rep K H (.int i) i := Dp.int i
theorem rep_bool (b : Bool) : Rep K H (.bl b) b := Dp.bl b
theorem rep_str (b : Str) : Rep K H (.str b) b := Dp.str b
theorem rep_unit : Rep K H .non () := Dp.non
theorem Rep.list {xs : List α} (h : Rep K H v xs) : ∃ a vs, v = .ref a ∧ SqL K H a vs ∧ Reps K H vs xs := by
  have h' : Dp K H v (.list (xs.map enc)) := h
  cases h' with
  | lst hs ha => exact ⟨_, _, rfl, hs, ha⟩
theorem Rep.tup {xs : Tp α} (h : Rep K H v xs) : ∃ a vs, v = .ref a ∧ SqT K H a vs ∧ Reps K H vs (α := α) xs := by
  have h' : Dp K H v (.tuple (List.map enc xs)) := h
  cases h' with
  | tup hs ha => exact ⟨_, _, rfl, hs, ha⟩
theorem rep_list {xs : List α} {a : Addr} {vs : List V} (h : SqL K H a vs) (r : Reps K H vs xs) : Rep K H (.ref a) xs := Dp.lst h r
theorem rep_tup {xs : Tp α} {a : Addr} {vs : List V} (h : SqT K H a vs) (r : Reps K H vs (α := α) xs) : Rep K H (.ref a) xs := Dp.tup h r
theorem Rep.pair {x : α × β} (h : Rep K H v x) : ∃ a u w, v = .ref a ∧ SqT K H a [u, w] ∧ Rep K H u x.1 ∧ Rep K H w x.2 := by
  have h' : Dp K H v (.tuple [enc x.1, enc x.2]) := h
  cases h' with
  | tup hs ha =>
    cases ha with
    | cons a1 a2 =>
      cases a2 with
      | cons a2 a3 =>
        cases a3
        exact ⟨_, _, _, rfl, hs, a1, a2⟩
theorem rep_pair {x : α} {y : β} {a : Addr} {u w : V} (h : SqT K H a [u, w]) (r : Rep K H u x) (s : Rep K H w y) : Rep K H (.ref a) (x, y) := Dp.tup h (.cons r (.cons s .nil))
theorem DpAll.len {vs : List V} {ds : List PyData} (h : DpAll K H vs ds) : vs.length = ds.length := by
  induction ds generalizing vs with
  | nil => cases h; rfl
  | cons d ds ih =>
    cases h with
    | cons a b => simp [ih b]
theorem Reps.len {vs : List V} {xs : List α} (h : Reps K H vs xs) : vs.length = xs.length := by
  have e := DpAll.len h
  rw [List.length_map] at e
  exact e
theorem reps_nil : Reps K H [] ([] : List α) := DpAll.nil
theorem Reps.cons {v : V} {vs : List V} {x : α} {xs : List α} (h : Rep K H v x) (r : Reps K H vs xs) : Reps K H (v :: vs) (x :: xs) := DpAll.cons h r
theorem Reps.inv {vs : List V} {x : α} {xs : List α} (h : Reps K H vs (x :: xs)) : ∃ v ws, vs = v :: ws ∧ Rep K H v x ∧ Reps K H ws xs := by
  have h' : DpAll K H vs (enc x :: xs.map enc) := h
  cases h' with
  | cons a b => exact ⟨_, _, rfl, a, b⟩
theorem Reps.nilI {vs : List V} (h : Reps K H vs ([] : List α)) : vs = [] := by
  have h' : DpAll K H vs [] := h
  cases h'; rfl
theorem Reps.append : ∀ {xs ys : List α} {vs ws : List V}, Reps K H vs xs → Reps K H ws ys → Reps K H (vs ++ ws) (xs ++ ys)
  | [], _, _, _, h, r => by
    obtain rfl := Reps.nilI h
    exact r
  | x :: xs, ys, vs, ws, h, r => by
    obtain ⟨v, us, rfl, h1, h2⟩ := Reps.inv h
    exact Reps.cons h1 (Reps.append h2 r)
theorem Reps.get : ∀ {xs : List α} {vs : List V} {i : Nat} {x : α}, Reps K H vs xs → xs[i]? = some x → ∃ v, vs[i]? = some v ∧ Rep K H v x
  | [], _, _, _, _, e => by simp at e
  | x :: xs, vs, 0, y, h, e => by
    obtain ⟨v, us, rfl, h1, h2⟩ := Reps.inv h
    simp at e
    subst e
    exact ⟨v, rfl, h1⟩
  | x :: xs, vs, i + 1, y, h, e => by
    obtain ⟨v, us, rfl, h1, h2⟩ := Reps.inv h
    simpa using Reps.get h2 (by simpa using e)
theorem Reps.got : ∀ {xs : List α} {vs : List V} {i : Nat} {v : V}, Reps K H vs xs → vs[i]? = some v → ∃ x, xs[i]? = some x ∧ Rep K H v x
  | [], vs, _, _, h, e => by
    obtain rfl := Reps.nilI h
    simp at e
  | x :: xs, vs, 0, y, h, e => by
    obtain ⟨v, us, rfl, h1, h2⟩ := Reps.inv h
    simp at e
    subst e
    exact ⟨x, rfl, h1⟩
  | x :: xs, vs, i + 1, y, h, e => by
    obtain ⟨v, us, rfl, h1, h2⟩ := Reps.inv h
    simpa using Reps.got h2 (by simpa using e)
theorem Reps.take : ∀ {xs : List α} {vs : List V} (n : Nat), Reps K H vs xs → Reps K H (vs.take n) (xs.take n)
  | xs, vs, 0, h => by simpa using reps_nil
  | [], vs, n + 1, h => by
    obtain rfl := Reps.nilI h
    exact reps_nil
  | x :: xs, vs, n + 1, h => by
    obtain ⟨v, us, rfl, h1, h2⟩ := Reps.inv h
    exact Reps.cons h1 (Reps.take n h2)
theorem Reps.drop : ∀ {xs : List α} {vs : List V} (n : Nat), Reps K H vs xs → Reps K H (vs.drop n) (xs.drop n)
  | xs, vs, 0, h => by simpa using h
  | [], vs, n + 1, h => by
    obtain rfl := Reps.nilI h
    exact reps_nil
  | x :: xs, vs, n + 1, h => by
    obtain ⟨v, us, rfl, h1, h2⟩ := Reps.inv h
    exact Reps.drop n h2
theorem Reps.set : ∀ {xs : List α} {vs : List V} {v : V} {x : α} (n : Nat), Reps K H vs xs → Rep K H v x → Reps K H (vs.set n v) (xs.set n x)
  | [], vs, v, x, n, h, r => by
    obtain rfl := Reps.nilI h
    exact reps_nil
  | y :: xs, vs, v, x, 0, h, r => by
    obtain ⟨v', us, rfl, h1, h2⟩ := Reps.inv h
    exact Reps.cons r h2
  | y :: xs, vs, v, x, n + 1, h, r => by
    obtain ⟨v', us, rfl, h1, h2⟩ := Reps.inv h
    exact Reps.cons h1 (Reps.set n h2 r)
theorem Reps.reverse : ∀ {xs : List α} {vs : List V}, Reps K H vs xs → Reps K H vs.reverse xs.reverse
  | [], vs, h => by
    obtain rfl := Reps.nilI h
    exact reps_nil
  | x :: xs, vs, h => by
    obtain ⟨v, us, rfl, h1, h2⟩ := Reps.inv h
    rw [List.reverse_cons, List.reverse_cons]
    exact Reps.append (Reps.reverse h2) (Reps.cons h1 reps_nil)
theorem Reps.ints : ∀ {xs : List Int} {vs : List V}, Reps K H vs xs → vs = xs.map V.int
  | [], vs, h => by obtain rfl := Reps.nilI h; rfl
  | x :: xs, vs, h => by
    obtain ⟨v, us, rfl, h1, h2⟩ := Reps.inv h
    rw [h1.int, Reps.ints h2]
    rfl
theorem reps_ints : ∀ (xs : List Int), Reps K H (xs.map V.int) xs
  | [] => reps_nil
  | x :: xs => Reps.cons (rep_int x) (reps_ints xs)
theorem Reps.bools : ∀ {xs : List Bool} {vs : List V}, Reps K H vs xs → vs = xs.map V.bl
  | [], vs, h => by obtain rfl := Reps.nilI h; rfl
  | x :: xs, vs, h => by
    obtain ⟨v, us, rfl, h1, h2⟩ := Reps.inv h
    rw [h1.bool, Reps.bools h2]
    rfl
theorem Reps.strs : ∀ {xs : List Str} {vs : List V}, Reps K H vs xs → vs = xs.map V.str
  | [], vs, h => by obtain rfl := Reps.nilI h; rfl
  | x :: xs, vs, h => by
    obtain ⟨v, us, rfl, h1, h2⟩ := Reps.inv h
    rw [h1.str, Reps.strs h2]
    rfl
end
end Z
set_option Elab.async false
set_option linter.all false
set_option maxRecDepth 100000
set_option maxHeartbeats 2000000
namespace Z
open PySem L2
open Evl (Ex)
open Dat
/-- H without p -/
def cut (H : Hp) (p : Addr) : Hp := fun b => if b = p then none else H b
theorem cut_ne {H : Hp} {p b : Addr} (h : b ≠ p) : cut H p b = H b := if_neg h
theorem cut_same {H : Hp} {p : Addr} : cut H p p = none := if_pos rfl
theorem cut_ex {H : Hp} {p : Addr} : Ex (cut H p) H := fun a o h => by
  by_cases e : a = p
  · rw [e, cut_same] at h; cases h
  · rw [cut_ne e] at h; exact h
theorem cut_mono {G H : Hp} {p : Addr} (e : Ex G H) : Ex (cut G p) (cut H p) := fun a o h => by
  by_cases q : a = p
  · rw [q, cut_same] at h; cases h
  · rw [cut_ne q] at h ⊢; exact e a o h
theorem cut_of {G H : Hp} {p : Addr} (e : Ex G H) (h : G p = none) : Ex G (cut H p) := fun a o q => by
  have : a ≠ p := fun z => by rw [z, h] at q; cases q
  rw [cut_ne this]; exact e a o q
theorem cut_upd {H : Hp} {p : Addr} {o : HO} : cut (upd H p o) p = cut H p := by
  funext b
  by_cases q : b = p
  · rw [q, cut_same, cut_same]
  · rw [cut_ne q, cut_ne q, upd_ne q]
theorem cut_updn {H : Hp} {p : Addr} {o : HO} (h : H p = none) : cut (upd H p o) p = H := by
  funext b
  by_cases q : b = p
  · rw [q, cut_same, h]
  · rw [cut_ne q, upd_ne q]
theorem cut_upd_ne {H : Hp} {p q : Addr} {o : HO} (h : q ≠ p) : cut (upd H q o) p = upd (cut H p) q o := by
  funext b
  by_cases e : b = p
  · rw [e, cut_same, upd_ne (Ne.symm h), cut_same]
  · rw [cut_ne e]
    by_cases e2 : b = q
    · rw [e2, upd_same, upd_same]
    · rw [upd_ne e2, upd_ne e2, cut_ne e]
theorem Tups.cut {H : Hp} {p : Addr} {xs : List V} (h : H p = some (.lst xs)) : Tups H (cut H p) := Tups.del h
theorem fresh_back {H H' : Hp} {p : Addr} (e : Ex H H') (h : H' p = none) : H p = none := Evl.fresh_back e h
theorem ne_new {H : Hp} {p q : Addr} {o : HO} (h : H p = some o) (k : H q = none) : p ≠ q := ne_of_none h k
/-- a list owned: it stands at p, its items lean on nothing at p -/
structure Own (K : PySem.W.Frag) {α : Type} [Dat α] (H : Hp) (p : Addr) (xs : List α) : Prop where
  ex : ∃ vs, H p = some (.lst vs) ∧ Reps K (cut H p) vs xs
section
variable {K : PySem.W.Frag} {α β : Type} [Dat α] [Dat β] {G H H' : Hp} {p : Addr}
theorem Own.mono {xs : List α} (e : Ex G H) (h : Own K G p xs) : Own K H p xs := by
  obtain ⟨vs, h1, h2⟩ := h.ex
  exact ⟨vs, e _ _ h1, h2.mono (cut_mono e)⟩
theorem Own.rep {xs : List α} (h : Own K H p xs) : Rep K H (.ref p) xs := by
  obtain ⟨vs, h1, h2⟩ := h.ex
  exact rep_list (SqL.of h1) (h2.mono cut_ex)
theorem Own.nil : Own K (upd H p (.lst [])) p ([] : List α) := ⟨[], upd_same, reps_nil⟩
theorem Own.there {xs : List α} (h : Own K H p xs) : ∃ vs, H p = some (.lst vs) ∧ vs.length = xs.length := by
  obtain ⟨vs, h1, h2⟩ := h.ex
  exact ⟨vs, h1, h2.len⟩
theorem Own.ne {xs : List α} {q : Addr} (h : Own K H p xs) (hq : H q = none) : p ≠ q := by
  obtain ⟨vs, h1, h2⟩ := h.ex
  exact ne_of_none h1 hq
/-- the heap that knows nothing of p is kept by a change at p -/
theorem ex_mut {o : HO} (e : Ex G H) (h : G p = none) : Ex G (upd H p o) := Evl.Ex.mut e h
end
/-! ### what evaluates to what -/
def ED (K : PySem.W.Frag) (te : TE) (σ : L2.St) (H : Hp) (d : PyData) : Prop := ∀ H1, Ex H H1 → ∀ Q : VK, (∀ v H2, Ex H1 H2 → Dp K H2 v d → Q v H2) → te σ H1 Q
section
variable (K : PySem.W.Frag) {α : Type} [Dat α]
abbrev ER (te : TE) (σ : L2.St) (H : Hp) (x : α) : Prop := ED K te σ H (enc x)
/-- a new list -/
def EL (te : TE) (σ : L2.St) (H : Hp) (xs : List α) : Prop := ∀ H1, Ex H H1 → ∀ Q : VK, (∀ p H2, H1 p = none → Ex H1 H2 → Own K H2 p xs → Q (.ref p) H2) → te σ H1 Q
def ET (_K : PySem.W.Frag) (tt : TT) (σ : L2.St) (H : Hp) (b : Bool) : Prop := ∀ H1, Ex H H1 → ∀ Q : Bool → Hp → Prop, (∀ H2, Ex H1 H2 → Q b H2) → tt σ H1 Q
/-- a value told outright -/
def EV (_K : PySem.W.Frag) (te : TE) (σ : L2.St) (H : Hp) (v : V) : Prop := ∀ H1, Ex H H1 → ∀ Q : VK, (∀ H2, Ex H1 H2 → Q v H2) → te σ H1 Q
def EO (_K : PySem.W.Frag) (to : TO) (σ : L2.St) (H : Hp) (o : Option Int) : Prop := ∀ H1, Ex H H1 → ∀ Q : Option Int → Hp → Prop, (∀ H2, Ex H1 H2 → Q o H2) → to σ H1 Q
end
section
variable {K : PySem.W.Frag} {α β γ δ : Type} [Dat α] [Dat β] [Dat γ] [Dat δ] {σ : L2.St} {G H H' : Hp} {te ta tb tc td : TE} {tt tu : TT}
theorem ED.mono {d : PyData} (e : Ex G H) (h : ED K te σ G d) : ED K te σ H d := fun H1 a Q q => h H1 (e.trans a) Q q
theorem ER.mono {x : α} (e : Ex G H) (h : ER K te σ G x) : ER K te σ H x := fun H1 a Q q => h H1 (e.trans a) Q q
theorem EL.mono {x : List α} (e : Ex G H) (h : EL K te σ G x) : EL K te σ H x := fun H1 a Q q => h H1 (e.trans a) Q q
theorem ET.mono {x : Bool} (e : Ex G H) (h : ET K tt σ G x) : ET K tt σ H x := fun H1 a Q q => h H1 (e.trans a) Q q
theorem EL.er {xs : List α} (h : EL K te σ H xs) : ER K te σ H xs := fun H1 e Q q => h H1 e Q fun p H2 _ e2 o => q _ H2 e2 o.rep
theorem ER.is {x y : α} (h : ER K te σ H x) (e : x = y) : ER K te σ H y := e ▸ h
theorem EL.is {x y : List α} (h : EL K te σ H x) (e : x = y) : EL K te σ H y := e ▸ h
theorem ET.is {x y : Bool} (h : ET K tt σ H x) (e : x = y) : ET K tt σ H y := e ▸ h
theorem EV.er {v : V} {x : α} (h : EV K te σ H v) (r : Rep K H v x) : ER K te σ H x := fun H1 e Q q => h H1 e Q fun H2 e2 => q v H2 e2 (r.mono (e.trans e2))
theorem ER.evI {i : Int} (h : ER K te σ H i) : EV K te σ H (.int i) := fun H1 e Q q => h H1 e Q fun v H2 e2 r => by rw [(Rep.int r)]; exact q H2 e2
theorem ER.evB {i : Bool} (h : ER K te σ H i) : EV K te σ H (.bl i) := fun H1 e Q q => h H1 e Q fun v H2 e2 r => by rw [(Rep.bool r)]; exact q H2 e2
theorem ER.evS {i : Str} (h : ER K te σ H i) : EV K te σ H (.str i) := fun H1 e Q q => h H1 e Q fun v H2 e2 r => by rw [(Rep.str r)]; exact q H2 e2
-- names, constants
theorem ed_var {i : Nat} {v : V} {d : PyData} (h : σ[i]? = some (some v)) (r : Dp K G v d) (e : Ex G H) : ED K (tVar i) σ H d := fun H1 e1 Q q => ⟨v, h, q v H1 (Ex.refl H1) (dp_mono (e.trans e1) _ _ r)⟩
theorem ed_own {i : Nat} {p : Addr} {xs : List α} (h : σ[i]? = some (some (.ref p))) (r : Own K G p xs) (e : Ex G H) : ED K (tVar i) σ H (.list (xs.map enc)) := ed_var h r.rep e
theorem ed_lenL {β : Type} {f : β → PyData} {xs : List β} (ha : ED K ta σ H (.list (xs.map f))) : ED K (tCB (fun xs H Q => ∃ p ys, xs = [.ref p] ∧ (SqL K H p ys ∨ SqT K H p ys) ∧ Q (.int ys.length) H) (tCons ta tNil)) σ H (.int (xs.length : Int)) := fun H1 e Q q =>
  ha H1 e _ fun v H2 e2 r => by
    cases r with
    | lst s r =>
      have e := DpAll.len r
      rw [List.length_map] at e
      exact ⟨_, _, rfl, .inl s, q _ H2 e2 (by rw [← e]; exact .int _)⟩
theorem ed_lenT {β : Type} {f : β → PyData} {xs : List β} (ha : ED K ta σ H (.tuple (xs.map f))) : ED K (tCB (fun xs H Q => ∃ p ys, xs = [.ref p] ∧ (SqL K H p ys ∨ SqT K H p ys) ∧ Q (.int ys.length) H) (tCons ta tNil)) σ H (.int (xs.length : Int)) := fun H1 e Q q =>
  ha H1 e _ fun v H2 e2 r => by
    cases r with
    | tup s r =>
      have e := DpAll.len r
      rw [List.length_map] at e
      exact ⟨_, _, rfl, .inr s, q _ H2 e2 (by rw [← e]; exact .int _)⟩
theorem er_var {i : Nat} {v : V} {x : α} (h : σ[i]? = some (some v)) (r : Rep K G v x) (e : Ex G H) : ER K (tVar i) σ H x := fun H1 e1 Q q => ⟨v, h, q v H1 (Ex.refl H1) (r.mono (e.trans e1))⟩
theorem er_own {i : Nat} {p : Addr} {xs : List α} (h : σ[i]? = some (some (.ref p))) (r : Own K G p xs) (e : Ex G H) : ER K (tVar i) σ H xs := er_var h r.rep e
theorem ev_var {i : Nat} {v : V} (h : σ[i]? = some (some v)) : EV K (tVar i) σ H v := fun H1 e1 Q q => ⟨v, h, q H1 (Ex.refl H1)⟩
theorem er_vint {i : Nat} {n : Int} (h : σ[i]? = some (some (.int n))) : ER K (tVar i) σ H n := er_var h (rep_int n) (Ex.refl H)
theorem er_vbl {i : Nat} {n : Bool} (h : σ[i]? = some (some (.bl n))) : ER K (tVar i) σ H n := er_var h (rep_bool n) (Ex.refl H)
theorem er_vstr {i : Nat} {n : Str} (h : σ[i]? = some (some (.str n))) : ER K (tVar i) σ H n := er_var h (rep_str n) (Ex.refl H)
theorem er_int {n : Int} : ER K (tC (.int n)) σ H n := fun H1 _ Q q => q _ H1 (Ex.refl H1) (rep_int n)
theorem er_bl {n : Bool} : ER K (tC (.bl n)) σ H n := fun H1 _ Q q => q _ H1 (Ex.refl H1) (rep_bool n)
theorem er_str {n : Str} : ER K (tC (.str n)) σ H n := fun H1 _ Q q => q _ H1 (Ex.refl H1) (rep_str n)
theorem er_non : ER K (tC .non) σ H () := fun H1 _ Q q => q _ H1 (Ex.refl H1) rep_unit
theorem ev_c {v : V} : EV K (tC v) σ H v := fun H1 _ Q q => q H1 (Ex.refl H1)
-- two ints
theorem er_I0 {g : Int → Int → Int} {i j : Int} (ha : ER K ta σ H i) (hb : ER K tb σ H j) : ER K (tOp (rI0 fun a b => .int (g a b)) ta tb) σ H (g i j) := fun H1 e Q q =>
  ha.evI H1 e _ fun H2 e2 => hb.evI H2 (e.trans e2) _ fun H3 e3 => ⟨i, j, rfl, rfl, q _ H3 (e2.trans e3) (rep_int _)⟩
theorem er_IB {g : Int → Int → Bool} {i j : Int} (ha : ER K ta σ H i) (hb : ER K tb σ H j) : ER K (tOp (rI0 fun a b => .bl (g a b)) ta tb) σ H (g i j) := fun H1 e Q q =>
  ha.evI H1 e _ fun H2 e2 => hb.evI H2 (e.trans e2) _ fun H3 e3 => ⟨i, j, rfl, rfl, q _ H3 (e2.trans e3) (rep_bool _)⟩
theorem er_I {C : Int → Int → Prop} {g : Int → Int → Int} {i j : Int} (ha : ER K ta σ H i) (hb : ER K tb σ H j) (hc : C i j) : ER K (tOp (rI C fun a b => .int (g a b)) ta tb) σ H (g i j) := fun H1 e Q q =>
  ha.evI H1 e _ fun H2 e2 => hb.evI H2 (e.trans e2) _ fun H3 e3 => ⟨i, j, rfl, rfl, hc, q _ H3 (e2.trans e3) (rep_int _)⟩
theorem er_neg {i : Int} (ha : ER K ta σ H i) : ER K (tUn (rU fun i => .int (-i)) ta) σ H (-i) := fun H1 e Q q =>
  ha.evI H1 e _ fun H2 e2 => ⟨i, rfl, q _ H2 e2 (rep_int _)⟩
theorem er_eqI {i j : Int} (ha : ER K ta σ H i) (hb : ER K tb σ H j) : ER K (tOp rEq ta tb) σ H (decide (i = j)) := fun H1 e Q q =>
  ha.evI H1 e _ fun H2 e2 => hb.evI H2 (e.trans e2) _ fun H3 e3 => ⟨rfl, by
    have : decide (V.int i = V.int j) = decide (i = j) := by simp
    rw [this]; exact q _ H3 (e2.trans e3) (rep_bool _)⟩
theorem er_neI {i j : Int} (ha : ER K ta σ H i) (hb : ER K tb σ H j) : ER K (tOp rNe ta tb) σ H (!decide (i = j)) := fun H1 e Q q =>
  ha.evI H1 e _ fun H2 e2 => hb.evI H2 (e.trans e2) _ fun H3 e3 => ⟨rfl, by
    have : decide (V.int i = V.int j) = decide (i = j) := by simp
    rw [this]; exact q _ H3 (e2.trans e3) (rep_bool _)⟩
theorem er_eqB {i j : Bool} (ha : ER K ta σ H i) (hb : ER K tb σ H j) : ER K (tOp rEq ta tb) σ H (decide (i = j)) := fun H1 e Q q =>
  ha.evB H1 e _ fun H2 e2 => hb.evB H2 (e.trans e2) _ fun H3 e3 => ⟨rfl, by
    have : decide (V.bl i = V.bl j) = decide (i = j) := by simp
    rw [this]; exact q _ H3 (e2.trans e3) (rep_bool _)⟩
-- == of data
theorem er_eqD {x y : α} [DecidableEq α] [DatEq α] {n : Nat} [Deep α n] (ha : ER K ta σ H x) (hb : ER K tb σ H y) (hn : n ≤ 64 := by decide) : ER K (tOp (rEqD K) ta tb) σ H (decide (x = y)) := fun H1 e Q q =>
  ha H1 e _ fun v H2 e2 r2 => hb H2 (e.trans e2) _ fun w H3 e3 r3 => ⟨enc x, enc y, r2.mono e3, r3, by
      unfold SeqAt.shaped; rw [DatEq.lay]; exact decide_eq_true (Nat.le_trans (Deep.dep x) hn), by
      unfold SeqAt.shaped; rw [DatEq.lay]; exact decide_eq_true (Nat.le_trans (Deep.dep y) hn), by rw [DatEq.eqv]; exact q _ H3 (e2.trans e3) (rep_bool _)⟩
theorem er_neD {x y : α} [DecidableEq α] [DatEq α] {n : Nat} [Deep α n] (ha : ER K ta σ H x) (hb : ER K tb σ H y) (hn : n ≤ 64 := by decide) : ER K (tOp (rNeD K) ta tb) σ H (!decide (x = y)) := fun H1 e Q q =>
  ha H1 e _ fun v H2 e2 r2 => hb H2 (e.trans e2) _ fun w H3 e3 r3 => ⟨enc x, enc y, r2.mono e3, r3, by
      unfold SeqAt.shaped; rw [DatEq.lay]; exact decide_eq_true (Nat.le_trans (Deep.dep x) hn), by
      unfold SeqAt.shaped; rw [DatEq.lay]; exact decide_eq_true (Nat.le_trans (Deep.dep y) hn), by rw [DatEq.eqv]; exact q _ H3 (e2.trans e3) (rep_bool _)⟩
-- subscripts
theorem reps_at {vs : List V} {xs : List α} {i : Int} {x : α} (r : Reps K H vs xs) (h : atI xs i = some x) : ∃ v, atI vs i = some v ∧ Rep K H v x := by
  unfold atI at h ⊢
  rw [r.len]
  cases e : ixN xs.length i with
  | none => rw [e] at h; cases h
  | some j =>
    rw [e] at h
    exact r.get h
theorem er_ixL {xs : List α} {i : Int} {x : α} (ha : ER K ta σ H xs) (hb : ER K tb σ H i) (hx : atI xs i = some x) : ER K (tOp (rIxL K) ta tb) σ H x := fun H1 e Q q =>
  ha H1 e _ fun v H2 e2 r => hb.evI H2 (e.trans e2) _ fun H3 e3 => by
    obtain ⟨a, vs, rfl, s, r⟩ := (Rep.list r)
    obtain ⟨w, hw, rw'⟩ := reps_at r hx
    exact ⟨a, vs, i, w, rfl, rfl, Evl.ex_l e3 s, hw, q _ H3 (e2.trans e3) (rw'.mono e3)⟩
theorem er_ixT {xs : Tp α} {i : Int} {x : α} (ha : ER K ta σ H xs) (hb : ER K tb σ H i) (hx : atI (α := α) xs i = some x) : ER K (tOp (rIxT K) ta tb) σ H x := fun H1 e Q q =>
  ha H1 e _ fun v H2 e2 r => hb.evI H2 (e.trans e2) _ fun H3 e3 => by
    obtain ⟨a, vs, rfl, s, r⟩ := (Rep.tup r)
    obtain ⟨w, hw, rw'⟩ := reps_at r hx
    exact ⟨a, vs, i, w, rfl, rfl, Evl.ex_t e3 s, hw, q _ H3 (e2.trans e3) (rw'.mono e3)⟩
theorem er_ix0 {x : α × β} (ha : ER K ta σ H x) : ER K (tOp (rIxT K) ta (tC (.int 0))) σ H x.1 := fun H1 e Q q =>
  ha H1 e _ fun v H2 e2 r => by
    obtain ⟨a, u, w, rfl, s, r1, r2⟩ := (Rep.pair r)
    exact ⟨a, _, 0, u, rfl, rfl, s, rfl, q _ H2 e2 r1⟩
theorem er_ix1 {x : α × β} (ha : ER K ta σ H x) : ER K (tOp (rIxT K) ta (tC (.int 1))) σ H x.2 := fun H1 e Q q =>
  ha H1 e _ fun v H2 e2 r => by
    obtain ⟨a, u, w, rfl, s, r1, r2⟩ := (Rep.pair r)
    exact ⟨a, _, 1, w, rfl, rfl, s, rfl, q _ H2 e2 r2⟩
-- len, int, list, tuple
theorem er_len {xs : List α} {k : Int} (ha : ER K ta σ H xs) (hk : k = (xs.length : Int)) : ER K (tCB (fun xs H Q => ∃ p ys, xs = [.ref p] ∧ (SqL K H p ys ∨ SqT K H p ys) ∧ Q (.int ys.length) H) (tCons ta tNil)) σ H k := fun H1 e Q q =>
  ha H1 e _ fun v H2 e2 r => by
    obtain ⟨a, vs, rfl, s, r⟩ := (Rep.list r)
    exact ⟨a, vs, rfl, .inl s, q _ H2 e2 (by rw [hk, ← r.len]; exact rep_int _)⟩
theorem er_lenT {xs : Tp α} {k : Int} (ha : ER K ta σ H xs) (hk : k = (List.length xs : Int)) : ER K (tCB (fun xs H Q => ∃ p ys, xs = [.ref p] ∧ (SqL K H p ys ∨ SqT K H p ys) ∧ Q (.int ys.length) H) (tCons ta tNil)) σ H k := fun H1 e Q q =>
  ha H1 e _ fun v H2 e2 r => by
    obtain ⟨a, vs, rfl, s, r⟩ := (Rep.tup r)
    exact ⟨a, vs, rfl, .inr s, q _ H2 e2 (by rw [hk, ← r.len]; exact rep_int _)⟩
theorem er_int1 {n : Int} (ha : ER K ta σ H n) : ER K (tCB (fun xs H Q => (∃ i, xs = [.int i] ∧ Q (.int i) H) ∨ ∃ k, xs = [.bl k] ∧ Q (.int (if k then 1 else 0)) H) (tCons ta tNil)) σ H n := fun H1 e Q q =>
  ha.evI H1 e _ fun H2 e2 => .inl ⟨n, rfl, q _ H2 e2 (rep_int _)⟩
theorem el_list {xs : List α} (ha : ER K ta σ H xs) : EL K (tCB (fun xs H Q => ∃ p ys, xs = [.ref p] ∧ (SqL K H p ys ∨ SqT K H p ys) ∧ ∀ l, H l = none → Q (.ref l) (upd H l (.lst ys))) (tCons ta tNil)) σ H xs := fun H1 e Q q =>
  ha H1 e _ fun v H2 e2 r => by
    obtain ⟨a, vs, rfl, s, r⟩ := (Rep.list r)
    exact ⟨a, vs, rfl, .inl s, fun l hl => q l _ (fresh_back e2 hl) (e2.trans (Evl.Ex.new hl)) ⟨vs, upd_same, by rw [cut_updn hl]; exact r⟩⟩
theorem el_listT {xs : Tp α} (ha : ER K ta σ H xs) : EL K (tCB (fun xs H Q => ∃ p ys, xs = [.ref p] ∧ (SqL K H p ys ∨ SqT K H p ys) ∧ ∀ l, H l = none → Q (.ref l) (upd H l (.lst ys))) (tCons ta tNil)) σ H (α := α) xs := fun H1 e Q q =>
  ha H1 e _ fun v H2 e2 r => by
    obtain ⟨a, vs, rfl, s, r⟩ := (Rep.tup r)
    exact ⟨a, vs, rfl, .inr s, fun l hl => q l _ (fresh_back e2 hl) (e2.trans (Evl.Ex.new hl)) ⟨vs, upd_same, by rw [cut_updn hl]; exact r⟩⟩
theorem er_tuple {xs : List α} (ha : ER K ta σ H xs) : ER K (tCB (fun xs H Q => ∃ p ys, xs = [.ref p] ∧ ((SqL K H p ys ∧ ∀ l, H l = none → Q (.ref l) (upd H l (.tup ys))) ∨ (SqT K H p ys ∧ Q (.ref p) H))) (tCons ta tNil)) σ H (show Tp α from xs) := fun H1 e Q q =>
  ha H1 e _ fun v H2 e2 r => by
    obtain ⟨a, vs, rfl, s, r⟩ := (Rep.list r)
    exact ⟨a, vs, rfl, .inl ⟨s, fun l hl => q _ _ (e2.trans (Evl.Ex.new hl)) (rep_tup (SqT.of upd_same) (r.mono (Evl.Ex.new hl)))⟩⟩
-- displays
/-- arguments that stand for xs -/
def EA (K : PySem.W.Frag) {α : Type} [Dat α] (ta : TA) (σ : L2.St) (H : Hp) (xs : List α) : Prop := ∀ H1, Ex H H1 → ∀ Q : List V → Hp → Prop, (∀ vs H2, Ex H1 H2 → Reps K H2 vs xs → Q vs H2) → ta σ H1 Q
theorem ea_nil : EA K tNil σ H ([] : List α) := fun H1 _ Q q => q [] H1 (Ex.refl H1) reps_nil
theorem ea_cons {tr : TA} {x : α} {xs : List α} (h : ER K ta σ H x) (hr : EA K tr σ H xs) : EA K (tCons ta tr) σ H (x :: xs) := fun H1 e Q q =>
  h H1 e _ fun v H2 e2 r => hr H2 (e.trans e2) _ fun vs H3 e3 rs => q _ H3 (e2.trans e3) (Reps.cons (r.mono e3) rs)
theorem el_lst {t : TA} {xs : List α} (h : EA K t σ H xs) (hl : xs.length ≤ 100000 := by first | decide | (simp only [List.length_cons, List.length_nil]; omega)) : EL K (tLst t) σ H xs := fun H1 e Q q =>
  h H1 e _ fun vs H2 e2 r => ⟨Evl.sz_of (by rw [r.len]; exact hl), fun p hp => q p _ (fresh_back e2 hp) (e2.trans (Evl.Ex.new hp)) ⟨vs, upd_same, by rw [cut_updn hp]; exact r⟩⟩
theorem er_tup {t : TA} {xs : List α} (h : EA K t σ H xs) (hl : xs.length ≤ 100000 := by first | decide | (simp only [List.length_cons, List.length_nil]; omega)) : ER K (tTup t) σ H (show Tp α from xs) := fun H1 e Q q =>
  h H1 e _ fun vs H2 e2 r => ⟨Evl.sz_of (by rw [r.len]; exact hl), fun p hp => q _ _ (e2.trans (Evl.Ex.new hp)) (rep_tup (SqT.of upd_same) (r.mono (Evl.Ex.new hp)))⟩
theorem er_pair {x : α} {y : β} (h : ER K ta σ H x) (k : ER K tb σ H y) : ER K (tTup (tCons ta (tCons tb tNil))) σ H (x, y) := fun H1 e Q q =>
  h H1 e _ fun v H2 e2 r => k H2 (e.trans e2) _ fun w H3 e3 s => ⟨Evl.sz_of (by show 2 ≤ 100000; decide), fun p hp => q _ _ ((e2.trans e3).trans (Evl.Ex.new hp)) (rep_pair (SqT.of upd_same) (r.mono (e3.trans (Evl.Ex.new hp))) (s.mono (Evl.Ex.new hp)))⟩
-- slices
theorem eo_none : EO K tNoPart σ H none := fun H1 _ Q q => q H1 (Ex.refl H1)
theorem eo_some {i : Int} (h : ER K te σ H i) : EO K (tPart te) σ H (some i) := fun H1 e Q q => h.evI H1 e _ fun H2 e2 => ⟨i, rfl, q H2 e2⟩
def cutD {α : Type} (xs : List α) (lo hi : Option Int) : List α := (xs.drop (HT.sIx xs.length 0 lo)).take (HT.sIx xs.length xs.length hi - HT.sIx xs.length 0 lo)
theorem Reps.cutV {vs : List V} {xs : List α} {lo hi : Option Int} (r : Reps K H vs xs) : Reps K H (L2.cutV vs lo hi) (cutD xs lo hi) := by
  unfold L2.cutV cutD
  rw [r.len]
  exact (r.drop _).take _
theorem el_sl {xs : List α} {tl th : TO} {lo hi : Option Int} (ha : ER K ta σ H xs) (hl : EO K tl σ H lo) (hh : EO K th σ H hi) : EL K (tSl (rSlL K) ta tl th) σ H (cutD xs lo hi) := fun H1 e Q q =>
  ha H1 e _ fun v H2 e2 r => hl H2 (e.trans e2) _ fun H3 e3 => hh H3 ((e.trans e2).trans e3) _ fun H4 e4 => by
    obtain ⟨a, vs, rfl, s, r⟩ := (Rep.list r)
    exact ⟨a, vs, rfl, Evl.ex_l (e3.trans e4) s, fun p hp => q p _ (fresh_back ((e2.trans e3).trans e4) hp) (((e2.trans e3).trans e4).trans (Evl.Ex.new hp))
      ⟨_, upd_same, by rw [cut_updn hp]; exact (r.cutV).mono (e3.trans e4)⟩⟩
theorem er_slT {xs : Tp α} {tl th : TO} {lo hi : Option Int} (ha : ER K ta σ H xs) (hl : EO K tl σ H lo) (hh : EO K th σ H hi) : ER K (tSl (rSlA K) ta tl th) σ H (show Tp α from cutD (α := α) xs lo hi) := fun H1 e Q q =>
  ha H1 e _ fun v H2 e2 r => hl H2 (e.trans e2) _ fun H3 e3 => hh H3 ((e.trans e2).trans e3) _ fun H4 e4 => by
    obtain ⟨a, vs, rfl, s, r⟩ := (Rep.tup r)
    have s4 := Evl.ex_t (e3.trans e4) s
    have r4 := r.mono (e3.trans e4)
    refine ⟨a, vs, rfl, s4, fun w => q _ H4 ((e2.trans e3).trans e4) (rep_tup (vs := vs) s4 ?_), fun w p hp => q _ _ (((e2.trans e3).trans e4).trans (Evl.Ex.new hp)) (rep_tup (SqT.of upd_same) ((r4.cutV).mono (Evl.Ex.new hp)))⟩
    have c := Reps.cutV (lo := lo) (hi := hi) r4
    have z : L2.cutV vs lo hi = vs := by
      unfold L2.cutV
      rw [w.1, w.2, List.drop_zero, Nat.sub_zero, List.take_length]
    rw [z] at c
    exact c
theorem el_rev {xs : List α} (ha : ER K ta σ H xs) : EL K (tRevL K ta) σ H xs.reverse := fun H1 e Q q =>
  ha H1 e _ fun v H2 e2 r => by
    obtain ⟨a, vs, rfl, s, r⟩ := (Rep.list r)
    exact ⟨a, vs, rfl, s, fun p hp => q p _ (fresh_back e2 hp) (e2.trans (Evl.Ex.new hp)) ⟨_, upd_same, by rw [cut_updn hp]; exact r.reverse⟩⟩
-- tuple + tuple
theorem er_catT {xs ys : Tp α} (ha : ER K ta σ H xs) (hb : ER K tb σ H ys) (hl : List.length xs + List.length ys ≤ 100000) : ER K (tOp (rCatA K) ta tb) σ H (show Tp α from @List.append α xs ys) := fun H1 e Q q =>
  ha H1 e _ fun v H2 e2 r => hb H2 (e.trans e2) _ fun w H3 e3 s => by
    obtain ⟨a, vs, rfl, s1, r1⟩ := (Rep.tup r)
    obtain ⟨b, ws, rfl, s2, r2⟩ := (Rep.tup s)
    have s1' := Evl.ex_t e3 s1
    have r1' := r1.mono e3
    have c : Reps K H3 (vs ++ ws) (@List.append α xs ys) := r1'.append r2
    refine ⟨a, b, vs, ws, rfl, rfl, s1', s2, Evl.sz_of (by rw [r1.len, r2.len]; exact hl), fun z => ?_, fun _ z => ?_, fun _ _ p hp => ?_⟩
    · subst z
      exact q _ H3 (e2.trans e3) (rep_tup s2 c)
    · subst z
      rw [List.append_nil] at c
      exact q _ H3 (e2.trans e3) (rep_tup s1' c)
    · exact q _ _ ((e2.trans e3).trans (Evl.Ex.new hp)) (rep_tup (SqT.of upd_same) (c.mono (Evl.Ex.new hp)))
-- list + list, of lists that stand tracked
theorem el_cat {xs ys : List α} (ha : EL K ta σ H xs) (hb : EL K tb σ H ys) [Flat α] (hl : xs.length + ys.length ≤ 100000) : EL K (tOp rCat ta tb) σ H (xs ++ ys) := fun H1 e Q q =>
  ha H1 e _ fun p H2 hp e2 o => hb H2 (e.trans e2) _ fun r H3 hr e3 o2 => by
    obtain ⟨vs, h1, r1⟩ := (o.mono e3).ex
    obtain ⟨ws, h2, r2⟩ := o2.ex
    refine ⟨p, r, vs, ws, rfl, rfl, h1, h2, Evl.sz_of (by rw [r1.len, r2.len]; exact hl), fun t ht => q t _ (fresh_back (e2.trans e3) ht) ((e2.trans e3).trans (Evl.Ex.new ht)) ⟨_, upd_same, ?_⟩⟩
    rw [cut_updn ht]
    exact (r1.mono cut_ex).append (r2.mono cut_ex)
-- tests
theorem et_test {b : Bool} (h : ER K te σ H b) : ET K (tTest te) σ H b := fun H1 e _ q => h.evB H1 e _ fun H2 e2 => ⟨b, rfl, q H2 e2⟩
theorem et_B {b : Bool} (h : ER K te σ H b) : ET K (tB te) σ H b := fun H1 e _ q => h.evB H1 e _ fun H2 e2 => ⟨b, rfl, q H2 e2⟩
theorem et_and {a b : Bool} (h1 : ET K tt σ H a) (h2 : a = true → ET K tu σ H b) : ET K (tAnd tt tu) σ H (a && b) := fun H1 e Q q => h1 H1 e _ fun H2 e2 => by
  cases a with
  | true => exact h2 rfl H2 (e.trans e2) Q fun H3 e3 => q H3 (e2.trans e3)
  | false => exact q H2 e2
theorem et_or {a b : Bool} (h1 : ET K tt σ H a) (h2 : a = false → ET K tu σ H b) : ET K (tOr tt tu) σ H (a || b) := fun H1 e Q q => h1 H1 e _ fun H2 e2 => by
  cases a with
  | true => exact q H2 e2
  | false => exact h2 rfl H2 (e.trans e2) Q fun H3 e3 => q H3 (e2.trans e3)
theorem et_not {a : Bool} (h1 : ET K tt σ H a) : ET K (tNot tt) σ H (!a) := fun H1 e _ q => h1 H1 e _ fun H2 e2 => q H2 e2
theorem er_andV {a b : Bool} (h1 : ER K ta σ H a) (h2 : a = true → ER K tb σ H b) : ER K (tAndV ta tb) σ H (a && b) := fun H1 e Q q => h1.evB H1 e _ fun H2 e2 => ⟨a, rfl, by
  cases a with
  | true => exact h2 rfl H2 (e.trans e2) Q fun v H3 e3 r => q v H3 (e2.trans e3) r
  | false => exact q _ H2 e2 (rep_bool _)⟩
theorem er_orV {a b : Bool} (h1 : ER K ta σ H a) (h2 : a = false → ER K tb σ H b) : ER K (tOrV ta tb) σ H (a || b) := fun H1 e Q q => h1.evB H1 e _ fun H2 e2 => ⟨a, rfl, by
  cases a with
  | true => exact q _ H2 e2 (rep_bool _)
  | false => exact h2 rfl H2 (e.trans e2) Q fun v H3 e3 r => q v H3 (e2.trans e3) r⟩
theorem er_notV {a : Bool} (h1 : ER K ta σ H a) : ER K (tNotV ta) σ H (!a) := fun H1 e Q q => h1.evB H1 e _ fun H2 e2 => ⟨a, rfl, q _ H2 e2 (rep_bool _)⟩
theorem er_if {b : Bool} {x y : α} (h : ET K tt σ H b) (h1 : b = true → ER K ta σ H x) (h2 : b = false → ER K tb σ H y) : ER K (tIf tt ta tb) σ H (if b = true then x else y) := fun H1 e Q q => h H1 e _ fun H2 e2 => by
  cases b with
  | true => exact h1 rfl H2 (e.trans e2) Q fun v H3 e3 r => q v H3 (e2.trans e3) r
  | false => exact h2 rfl H2 (e.trans e2) Q fun v H3 e3 r => q v H3 (e2.trans e3) r
end
/-! ### promises of defs -/
section
variable (K : PySem.W.Frag) {α β γ δ ε : Type} [Dat α] [Dat β] [Dat γ] [Dat δ] [Dat ε]
/-- a datum from data -/
def sp1 (pre : α → Prop) (m : α → ε) : Sp := fun vs H Q _ => ∃ v x, vs = [v] ∧ Rep K H v x ∧ pre x ∧ ∀ w H', Ex H H' → Rep K H' w (m x) → Q w H'
def sp2 (pre : α → β → Prop) (m : α → β → ε) : Sp := fun vs H Q _ => ∃ v u x y, vs = [v, u] ∧ Rep K H v x ∧ Rep K H u y ∧ pre x y ∧ ∀ w H', Ex H H' → Rep K H' w (m x y) → Q w H'
def sp3 (pre : α → β → γ → Prop) (m : α → β → γ → ε) : Sp := fun vs H Q _ => ∃ v u t x y z, vs = [v, u, t] ∧ Rep K H v x ∧ Rep K H u y ∧ Rep K H t z ∧ pre x y z ∧ ∀ w H', Ex H H' → Rep K H' w (m x y z) → Q w H'
/-- a new list from data -/
def sl1 (pre : α → Prop) (m : α → List ε) : Sp := fun vs H Q _ => ∃ v x, vs = [v] ∧ Rep K H v x ∧ pre x ∧ ∀ p H', H p = none → Ex H H' → Own K H' p (m x) → Q (.ref p) H'
def sl2 (pre : α → β → Prop) (m : α → β → List ε) : Sp := fun vs H Q _ => ∃ v u x y, vs = [v, u] ∧ Rep K H v x ∧ Rep K H u y ∧ pre x y ∧ ∀ p H', H p = none → Ex H H' → Own K H' p (m x y) → Q (.ref p) H'
def sl3 (pre : α → β → γ → Prop) (m : α → β → γ → List ε) : Sp := fun vs H Q _ => ∃ v u t x y z, vs = [v, u, t] ∧ Rep K H v x ∧ Rep K H u y ∧ Rep K H t z ∧ pre x y z ∧ ∀ p H', H p = none → Ex H H' → Own K H' p (m x y z) → Q (.ref p) H'
end
section
variable {K : PySem.W.Frag} {α β γ δ ε : Type} [Dat α] [Dat β] [Dat γ] [Dat δ] [Dat ε] {σ : L2.St} {H : Hp} {ta tb tc : TE} {E : XK}
theorem er_c1 {pre : α → Prop} {m : α → ε} {x : α} (h : ER K ta σ H x) (hp : pre x) : ER K (tCall (sp1 K pre m) [] E (tCons ta tNil)) σ H (m x) := fun H1 e Q q =>
  h H1 e _ fun v H2 e2 r => ⟨v, x, rfl, r, hp, fun w H3 e3 s => q w H3 (e2.trans e3) s⟩
theorem er_c2 {pre : α → β → Prop} {m : α → β → ε} {x : α} {y : β} (h : ER K ta σ H x) (h2 : ER K tb σ H y) (hp : pre x y) : ER K (tCall (sp2 K pre m) [] E (tCons ta (tCons tb tNil))) σ H (m x y) := fun H1 e Q q =>
  h H1 e _ fun v H2 e2 r => h2 H2 (e.trans e2) _ fun u H3 e3 r2 => ⟨v, u, x, y, rfl, r.mono e3, r2, hp, fun w H4 e4 s => q w H4 ((e2.trans e3).trans e4) s⟩
theorem er_c3 {pre : α → β → γ → Prop} {m : α → β → γ → ε} {x : α} {y : β} {z : γ} (h : ER K ta σ H x) (h2 : ER K tb σ H y) (h3 : ER K tc σ H z) (hp : pre x y z) : ER K (tCall (sp3 K pre m) [] E (tCons ta (tCons tb (tCons tc tNil)))) σ H (m x y z) := fun H1 e Q q =>
  h H1 e _ fun v H2 e2 r => h2 H2 (e.trans e2) _ fun u H3 e3 r2 => h3 H3 ((e.trans e2).trans e3) _ fun t H4 e4 r3 => ⟨v, u, t, x, y, z, rfl, r.mono (e3.trans e4), r2.mono e4, r3, hp, fun w H5 e5 s => q w H5 (((e2.trans e3).trans e4).trans e5) s⟩
theorem el_c1 {pre : α → Prop} {m : α → List ε} {x : α} (h : ER K ta σ H x) (hp : pre x) : EL K (tCall (sl1 K pre m) [] E (tCons ta tNil)) σ H (m x) := fun H1 e Q q =>
  h H1 e _ fun v H2 e2 r => ⟨v, x, rfl, r, hp, fun w H3 n3 e3 s => q w H3 (fresh_back e2 n3) (e2.trans e3) s⟩
theorem el_c2 {pre : α → β → Prop} {m : α → β → List ε} {x : α} {y : β} (h : ER K ta σ H x) (h2 : ER K tb σ H y) (hp : pre x y) : EL K (tCall (sl2 K pre m) [] E (tCons ta (tCons tb tNil))) σ H (m x y) := fun H1 e Q q =>
  h H1 e _ fun v H2 e2 r => h2 H2 (e.trans e2) _ fun u H3 e3 r2 => ⟨v, u, x, y, rfl, r.mono e3, r2, hp, fun w H4 n4 e4 s => q w H4 (fresh_back (e2.trans e3) n4) ((e2.trans e3).trans e4) s⟩
theorem el_c3 {pre : α → β → γ → Prop} {m : α → β → γ → List ε} {x : α} {y : β} {z : γ} (h : ER K ta σ H x) (h2 : ER K tb σ H y) (h3 : ER K tc σ H z) (hp : pre x y z) : EL K (tCall (sl3 K pre m) [] E (tCons ta (tCons tb (tCons tc tNil)))) σ H (m x y z) := fun H1 e Q q =>
  h H1 e _ fun v H2 e2 r => h2 H2 (e.trans e2) _ fun u H3 e3 r2 => h3 H3 ((e.trans e2).trans e3) _ fun t H4 e4 r3 => ⟨v, u, t, x, y, z, rfl, r.mono (e3.trans e4), r2.mono e4, r3, hp, fun w H5 n5 e5 s => q w H5 (fresh_back ((e2.trans e3).trans e4) n5) (((e2.trans e3).trans e4).trans e5) s⟩
end
section
variable {CX : CXT} {P : Program} {w : World} {K : PySem.W.Frag} {mg : Str → Option Value} {base : Heap} {N : List Str} {qual : Str} {sc : Scope} {f : Addr} {cd : Value} {A : Around} {outer : List Env} {s : Shared} {H : Hp} {E : XK} {X : Cx}
theorem kx1 : (cxOf CX P w K mg base N qual sc f cd A outer s H E).nox.K = K := rfl
theorem kx2 : (cxOf CX P w K mg base N qual sc f cd A outer s H E).K = K := rfl
theorem kx3 {s' : Shared} {H' : Hp} {scope : Scope} {env : Env} {fp : List Addr} : (X.blk s' H' scope env fp).K = X.K := rfl
end
/-! ### statements -/
section
variable {K : PySem.W.Frag} {α β : Type} [Dat α] [Dat β] {σ : L2.St} {G H : Hp} {te : TE} {tt : TT} {t u : TS} {D : Ends} {i : Nat}
theorem s_seq (h : t { D with nx := u D } σ H) : tSeq t u D σ H := h
theorem s_set {x : α} (h : ER K te σ H x) (k : ∀ v H', Ex H H' → Rep K H' v x → D.nx (σ.set i (some v)) H') : tAsg te (gName i) D σ H := h H (Ex.refl H) _ k
theorem s_setI {x : Int} (h : ER K te σ H x) (k : ∀ H', Ex H H' → D.nx (σ.set i (some (.int x))) H') : tAsg te (gName i) D σ H := h.evI H (Ex.refl H) _ k
theorem s_setB {x : Bool} (h : ER K te σ H x) (k : ∀ H', Ex H H' → D.nx (σ.set i (some (.bl x))) H') : tAsg te (gName i) D σ H := h.evB H (Ex.refl H) _ k
theorem s_setL {xs : List α} (h : EL K te σ H xs) (k : ∀ p H', H p = none → Ex H H' → Own K H' p xs → D.nx (σ.set i (some (.ref p))) H') : tAsg te (gName i) D σ H := h H (Ex.refl H) _ k
/-! the same ahead of a rest -/
theorem q_asg {w : V} {g : TG} (h : EV K te σ H w) (k : ∀ H', Ex H H' → g w σ H' (u D)) : tSeq (tAsg te g) u D σ H := h H (Ex.refl H) _ k
theorem q_set {x : α} (h : ER K te σ H x) (k : ∀ v H', Ex H H' → Rep K H' v x → u D (σ.set i (some v)) H') : tSeq (tAsg te (gName i)) u D σ H := s_set (D := { D with nx := u D }) h k
theorem q_setI {x : Int} (h : ER K te σ H x) (k : ∀ H', Ex H H' → u D (σ.set i (some (.int x))) H') : tSeq (tAsg te (gName i)) u D σ H := s_setI (D := { D with nx := u D }) h k
theorem q_setB {x : Bool} (h : ER K te σ H x) (k : ∀ H', Ex H H' → u D (σ.set i (some (.bl x))) H') : tSeq (tAsg te (gName i)) u D σ H := s_setB (D := { D with nx := u D }) h k
theorem q_setV {v : V} (h : EV K te σ H v) (k : ∀ H', Ex H H' → u D (σ.set i (some v)) H') : tSeq (tAsg te (gName i)) u D σ H := h H (Ex.refl H) _ k
theorem q_setL {xs : List α} (h : EL K te σ H xs) (k : ∀ p H', H p = none → Ex H H' → Own K H' p xs → u D (σ.set i (some (.ref p))) H') : tSeq (tAsg te (gName i)) u D σ H := s_setL (D := { D with nx := u D }) h k
theorem s_ret {x : α} (h : ER K te σ H x) (k : ∀ v H', Ex H H' → Rep K H' v x → D.rt v H') : tRet te D σ H := h H (Ex.refl H) _ k
theorem s_retL {xs : List α} (h : EL K te σ H xs) (k : ∀ p H', H p = none → Ex H H' → Own K H' p xs → D.rt (.ref p) H') : tRet te D σ H := h H (Ex.refl H) _ k
theorem s_if {b : Bool} (h : ET K tt σ H b) (k1 : b = true → ∀ H', Ex H H' → t D σ H') (k2 : b = false → ∀ H', Ex H H' → u D σ H') : tIfS tt t u D σ H := h H (Ex.refl H) _ fun H2 e2 => by
  cases b with
  | true => exact k1 rfl H2 e2
  | false => exact k2 rfl H2 e2
theorem q_if {b : Bool} (h : ET K tt σ H b) (k1 : b = true → ∀ H', Ex H H' → t { D with nx := u D } σ H') (k2 : b = false → ∀ H', Ex H H' → u D σ H') : tSeq (tIfS tt t tNext) u D σ H := s_if (D := { D with nx := u D }) h k1 k2
/-- l.append(e), l a name -/
theorem s_app {l : Nat} {p : Addr} {xs : List α} {x : α} (hl : σ[l]? = some (some (.ref p))) (ho : Own K H p xs) (h : ER K te σ H x) [Flat α] (hz : xs.length < 100000) (k : ∀ H', (∀ G, Ex G H → G p = none → Ex G H') → Tups H H' → Own K H' p (xs ++ [x]) → D.nx σ H') :
    tDrop (tBM K "list" rAppend (tVar l) (tCons te tNil)) D σ H := by
  obtain ⟨vs, h1, r1⟩ := ho.ex
  refine ⟨_, hl, .inl ⟨rfl, _, SqL.of h1⟩, h H (Ex.refl H) _ fun v H1 e1 r => ?_⟩
  obtain ⟨ws, h2, r2⟩ := (ho.mono e1).ex
  have ew : ws = vs := by
    have := e1 _ _ h1
    rw [this] at h2
    cases h2; rfl
  subst ew
  refine ⟨p, ws, v, rfl, rfl, h2, Evl.sz_lt (by rw [r2.len]; exact hz), k _ (fun G eG hG => ex_mut (eG.trans e1) hG) ((Tups.ex e1).trans (Tups.upd h2)) ⟨_, upd_same, ?_⟩⟩
  rw [cut_upd]
  exact Reps.append r2 (Reps.cons (r.imm (Tups.cut h2)) reps_nil)
theorem q_app {l : Nat} {p : Addr} {xs : List α} {x : α} (hl : σ[l]? = some (some (.ref p))) (ho : Own K H p xs) (h : ER K te σ H x) [Flat α] (hz : xs.length < 100000) (k : ∀ H', (∀ G, Ex G H → G p = none → Ex G H') → Tups H H' → Own K H' p (xs ++ [x]) → u D σ H') :
    tSeq (tDrop (tBM K "list" rAppend (tVar l) (tCons te tNil))) u D σ H := s_app (D := { D with nx := u D }) hl ho h hz k
/-- a for over a list that stands; G: what the turns leave as it is -/
theorem s_for {xs : List α} {g : TG} {tb : TS} (h : ER K te σ H xs) (k : ∀ a vs H1, Ex H H1 → SqL K H1 a vs → Reps K H1 vs xs → ∃ (G : Hp) (J : Nat → L2.St → Hp → Prop), Ex G H1 ∧ SqL K G a vs ∧ Reps K G vs xs ∧ J 0 σ H1 ∧
      (∀ i x v σ' H', xs[i]? = some x → Ex G H' → Rep K G v x → J i σ' H' → g v σ' H' fun σ2 H2 => tb { D with nx := fun σ3 H3 => Ex G H3 ∧ J (i + 1) σ3 H3, ct := fun σ3 H3 => Ex G H3 ∧ J (i + 1) σ3 H3, bk := D.nx } σ2 H2) ∧
      (∀ σ' H', Ex G H' → J xs.length σ' H' → D.nx σ' H')) : tFor (iList K te) g tb D σ H := h H (Ex.refl H) _ fun v H1 e1 r => by
  obtain ⟨a, vs, rfl, s, r⟩ := (Rep.list r)
  obtain ⟨G, J, eG, sG, rG, j0, js, jd⟩ := k a vs H1 e1 s r
  refine ⟨a, rfl, ⟨vs, s⟩, for_list (K := K) (a := a) (xs := vs) (fun i σ' H' => Ex G H' ∧ J i σ' H') ⟨eG, j0⟩ (fun i σ' H' _ z => Evl.ex_l z.1 sG) (fun i v σ' H' hi z => ?_) (fun σ' H' z => ?_)⟩
  · obtain ⟨x, hx, rx⟩ := rG.got hi
    exact js i x v σ' H' hx z.1 rx z.2
  · rw [r.len] at z
    exact jd σ' H' z.1 z.2
/-- .. over a list that a name holds and that stands in G -/
theorem s_forV {xs : List α} {n : Nat} {v : V} {g : TG} {tb : TS} (hσ : σ[n]? = some (some v)) (r : Rep K G v xs) (e : Ex G H) (J : Nat → L2.St → Hp → Prop) (j0 : J 0 σ H)
    (js : ∀ i x w σ' H', xs[i]? = some x → Ex G H' → Rep K G w x → J i σ' H' → g w σ' H' fun σ2 H2 => tb { D with nx := fun σ3 H3 => Ex G H3 ∧ J (i + 1) σ3 H3, ct := fun σ3 H3 => Ex G H3 ∧ J (i + 1) σ3 H3, bk := D.nx } σ2 H2)
    (jd : ∀ σ' H', Ex G H' → J xs.length σ' H' → D.nx σ' H') : tFor (iList K (tVar n)) g tb D σ H := by
  obtain ⟨a, vs, rfl, sG, rG⟩ := Rep.list r
  refine ⟨_, hσ, a, rfl, ⟨vs, Evl.ex_l e sG⟩, for_list (K := K) (a := a) (xs := vs) (fun i σ' H' => Ex G H' ∧ J i σ' H') ⟨e, j0⟩ (fun i σ' H' _ z => Evl.ex_l z.1 sG) (fun i w σ' H' hi z => ?_) (fun σ' H' z => ?_)⟩
  · obtain ⟨x, hx, rx⟩ := rG.got hi
    exact js i x w σ' H' hx z.1 rx z.2
  · rw [rG.len] at z
    exact jd σ' H' z.1 z.2
theorem s_forT {xs : Tp α} {g : TG} {tb : TS} (h : ER K te σ H xs) (k : ∀ a vs H1, Ex H H1 → SqT K H1 a vs → Reps K H1 vs (α := α) xs → ∃ (G : Hp) (J : Nat → L2.St → Hp → Prop), Ex G H1 ∧ SqT K G a vs ∧ Reps K G vs (α := α) xs ∧ J 0 σ H1 ∧
      (∀ i x v σ' H', (show List α from xs)[i]? = some x → Ex G H' → Rep K G v x → J i σ' H' → g v σ' H' fun σ2 H2 => tb { D with nx := fun σ3 H3 => Ex G H3 ∧ J (i + 1) σ3 H3, ct := fun σ3 H3 => Ex G H3 ∧ J (i + 1) σ3 H3, bk := D.nx } σ2 H2) ∧
      (∀ σ' H', Ex G H' → J (List.length xs) σ' H' → D.nx σ' H')) : tFor (iTup K te) g tb D σ H := h H (Ex.refl H) _ fun v H1 e1 r => by
  obtain ⟨a, vs, rfl, s, r⟩ := (Rep.tup r)
  obtain ⟨G, J, eG, sG, rG, j0, js, jd⟩ := k a vs H1 e1 s r
  refine ⟨a, rfl, ⟨vs, s⟩, for_tup (K := K) (a := a) (xs := vs) (fun i σ' H' => Ex G H' ∧ J i σ' H') ⟨eG, j0⟩ (fun i σ' H' _ z => Evl.ex_t z.1 sG) (fun i v σ' H' hi z => ?_) (fun σ' H' z => ?_)⟩
  · obtain ⟨x, hx, rx⟩ := rG.got hi
    exact js i x v σ' H' hx z.1 rx z.2
  · rw [r.len] at z
    exact jd σ' H' z.1 z.2
/-- for k in range(n) -/
theorem s_rng {n : Int} {ta : TE} {g : TG} {tb : TS} (h : ER K ta σ H n) (hn : n < 2 ^ 62) (hn0 : -(2 ^ 62) ≤ n) (k : ∀ H1, Ex H H1 → ∃ (G : Hp) (J : Nat → L2.St → Hp → Prop), Ex G H1 ∧ J 0 σ H1 ∧
      (∀ (i : Nat) σ' H', i < n.toNat → Ex G H' → J i σ' H' → g (.int (i : Int)) σ' H' fun σ2 H2 => tb { D with nx := fun σ3 H3 => Ex G H3 ∧ J (i + 1) σ3 H3, ct := fun σ3 H3 => Ex G H3 ∧ J (i + 1) σ3 H3, bk := D.nx } σ2 H2) ∧
      (∀ σ' H', Ex G H' → J n.toNat σ' H' → D.nx σ' H')) : tFor (iRng1 (tCons ta tNil)) g tb D σ H := h.evI H (Ex.refl H) _ fun H1 e1 => by
  obtain ⟨G, J, eG, j0, js, jd⟩ := k H1 e1
  refine ⟨n, rfl, hn0, hn, for_range (lo := 0) (n := n.toNat) (fun i σ' H' => Ex G H' ∧ J i σ' H') ⟨eG, j0⟩ (fun i σ' H' hi z => ?_) (fun σ' H' z => jd σ' H' z.1 z.2)⟩
  rw [Int.zero_add]
  exact js i σ' H' hi z.1 z.2
theorem s_rng2 {lo hi : Int} {ta tc : TE} {g : TG} {tb : TS} (h : ER K ta σ H lo) (h' : ER K tc σ H hi) (hb : -(2 ^ 62) ≤ lo ∧ lo < 2 ^ 62 ∧ -(2 ^ 62) ≤ hi ∧ hi < 2 ^ 62) (k : ∀ H1, Ex H H1 → ∃ (G : Hp) (J : Nat → L2.St → Hp → Prop), Ex G H1 ∧ J 0 σ H1 ∧
      (∀ (i : Nat) σ' H', i < (hi - lo).toNat → Ex G H' → J i σ' H' → g (.int (lo + (i : Int))) σ' H' fun σ2 H2 => tb { D with nx := fun σ3 H3 => Ex G H3 ∧ J (i + 1) σ3 H3, ct := fun σ3 H3 => Ex G H3 ∧ J (i + 1) σ3 H3, bk := D.nx } σ2 H2) ∧
      (∀ σ' H', Ex G H' → J (hi - lo).toNat σ' H' → D.nx σ' H')) : tFor (iRng2 (tCons ta (tCons tc tNil))) g tb D σ H := h.evI H (Ex.refl H) _ fun H0 e0 => h'.evI H0 e0 _ fun H1 e1 => by
  obtain ⟨G, J, eG, j0, js, jd⟩ := k H1 (e0.trans e1)
  exact ⟨lo, hi, rfl, hb, for_range (lo := lo) (n := (hi - lo).toNat) (fun i σ' H' => Ex G H' ∧ J i σ' H') ⟨eG, j0⟩ (fun i σ' H' hi z => js i σ' H' hi z.1 z.2) (fun σ' H' z => jd σ' H' z.1 z.2)⟩
end
/-! ### comprehensions -/
section
variable {K : PySem.W.Frag} {α β : Type} [Dat α] [Dat β] {σ : L2.St} {G H : Hp} {te tl : TE} {tt : TT} {i : Nat}
theorem wipe1 (v : Option V) : wipe ((wipe σ [i]).set i v) [i] = wipe σ [i] := by
  show (((σ.set i none).set i v).set i none) = σ.set i none
  rw [List.set_set, List.set_set]
/-- [f(x) for x in xs] -/
theorem el_map {xs : List α} {f : α → β} [Flat β] (h : ER K tl σ H xs) (he : ∀ x v H', x ∈ xs → Ex H H' → Rep K H' v x → ER K te ((wipe σ [i]).set i (some v)) H' (f x)) (hz : xs.length ≤ 100000) :
    EL K (tLc (iList K tl) (gName i) tYes te [i]) σ H (xs.map f) := fun H0 e0 Q q => h H0 e0 _ fun v H1 e1 r => by
  obtain ⟨a, vs, rfl, s, r⟩ := (Rep.list r)
  refine ⟨a, rfl, ⟨vs, s⟩, fun D hD => lc_list (K := K) (a := a) (xs := vs) (fun j H' => Ex H1 H' ∧ Own K H' D ((xs.take j).map f)) ⟨Evl.Ex.new hD, by simpa using Own.nil⟩ (fun j H' _ z => Evl.ex_l z.1 s) (fun j v H' hj z => ?_) (fun H' z => ?_)⟩
  · obtain ⟨x, hx, rx⟩ := r.got hj
    have hlt : j < xs.length := (List.getElem?_eq_some_iff.mp hx).1
    refine ⟨wipe1 _, he x v H' (List.mem_of_getElem? hx) (e0.trans (e1.trans z.1)) (rx.mono z.1) H' (Ex.refl H') _ fun w H2 e2 rw' => ?_⟩
    obtain ⟨acc, h1, r1⟩ := (z.2.mono e2).ex
    refine ⟨acc, h1, Evl.sz_lt (by rw [r1.len, List.length_map, List.length_take]; omega), ex_mut (z.1.trans e2) hD, acc ++ [w], upd_same, ?_⟩
    rw [cut_upd, show xs.take (j + 1) = xs.take j ++ [x] by rw [List.take_succ, hx]; rfl, List.map_append]
    exact r1.append (Reps.cons (rw'.imm (Tups.cut h1)) reps_nil)
  · have e : xs.take vs.length = xs := by rw [r.len, List.take_length]
    rw [e] at z
    exact q D H' (fresh_back e1 hD) (e1.trans z.1) z.2
/-- [f(x) for x in xs if p(x)] -/
theorem el_filter {xs : List α} {f : α → β} {p : α → Bool} [Flat β] (h : ER K tl σ H xs) (ht : ∀ x v H', x ∈ xs → Ex H H' → Rep K H' v x → ET K tt ((wipe σ [i]).set i (some v)) H' (p x))
    (he : ∀ x v H', x ∈ xs → p x = true → Ex H H' → Rep K H' v x → ER K te ((wipe σ [i]).set i (some v)) H' (f x)) (hz : xs.length ≤ 100000) :
    EL K (tLc (iList K tl) (gName i) tt te [i]) σ H ((xs.filter p).map f) := fun H0 e0 Q q => h H0 e0 _ fun v H1 e1 r => by
  obtain ⟨a, vs, rfl, s, r⟩ := (Rep.list r)
  refine ⟨a, rfl, ⟨vs, s⟩, fun D hD => lc_list (K := K) (a := a) (xs := vs) (fun j H' => Ex H1 H' ∧ Own K H' D (((xs.take j).filter p).map f)) ⟨Evl.Ex.new hD, by simpa using Own.nil⟩ (fun j H' _ z => Evl.ex_l z.1 s) (fun j v H' hj z => ?_) (fun H' z => ?_)⟩
  · obtain ⟨x, hx, rx⟩ := r.got hj
    have hlt : j < xs.length := (List.getElem?_eq_some_iff.mp hx).1
    have hm := List.mem_of_getElem? hx
    refine ⟨wipe1 _, ht x v H' hm (e0.trans (e1.trans z.1)) (rx.mono z.1) H' (Ex.refl H') _ fun H2 e2 => ?_⟩
    have et : xs.take (j + 1) = xs.take j ++ [x] := by rw [List.take_succ, hx]; rfl
    cases hp : p x with
    | false =>
      refine (if_neg Bool.false_ne_true).mpr ⟨z.1.trans e2, ?_⟩
      rw [et, List.filter_append, List.filter_cons_of_neg (by simp [hp]), List.filter_nil, List.append_nil]
      exact z.2.mono e2
    | true =>
      refine (if_pos rfl).mpr (he x v H2 hm hp (e0.trans ((e1.trans z.1).trans e2)) (rx.mono (z.1.trans e2)) H2 (Ex.refl H2) _ fun w H3 e3 rw' => ?_)
      obtain ⟨acc, h1, r1⟩ := (z.2.mono (e2.trans e3)).ex
      refine ⟨acc, h1, Evl.sz_lt ?_, ex_mut (z.1.trans (e2.trans e3)) hD, acc ++ [w], upd_same, ?_⟩
      · rw [r1.len, List.length_map]
        have := List.length_filter_le p (xs.take j)
        rw [List.length_take] at this
        omega
      · rw [cut_upd, et, List.filter_append, List.filter_cons_of_pos (by simp [hp]), List.filter_nil, List.map_append]
        exact r1.append (Reps.cons (rw'.imm (Tups.cut h1)) reps_nil)
  · have e : xs.take vs.length = xs := by rw [r.len, List.take_length]
    rw [e] at z
    exact q D H' (fresh_back e1 hD) (e1.trans z.1) z.2
/-- [f(k) for k in range(n)] -/
theorem el_rmapN {n : Int} {ta : TE} {f : Nat → β} [Flat β] (h : ER K ta σ H n) (hn0 : -100000 ≤ n) (hz : n ≤ 100000) (he : ∀ (k : Nat) H', (k : Int) < n → Ex H H' → ER K te ((wipe σ [i]).set i (some (.int k))) H' (f k)) :
    EL K (tLc (iRng1 (tCons ta tNil)) (gName i) tYes te [i]) σ H ((List.range n.toNat).map f) := fun H0 e0 Q q => h.evI H0 e0 _ fun H1 e1 => by
  refine ⟨n, rfl, by omega, by omega, fun D hD => lc_range (lo := 0) (n := n.toNat) (fun j H' => Ex H1 H' ∧ Own K H' D ((List.range j).map f)) ⟨Evl.Ex.new hD, by simpa using Own.nil⟩ (fun j H' hj z => ?_) (fun H' z => ?_)⟩
  · rw [Int.zero_add]
    refine ⟨wipe1 _, he j H' (by omega) (e0.trans (e1.trans z.1)) H' (Ex.refl H') _ fun w H2 e2 rw' => ?_⟩
    obtain ⟨acc, h1, r1⟩ := (z.2.mono e2).ex
    refine ⟨acc, h1, Evl.sz_lt (by rw [r1.len, List.length_map, List.length_range]; omega), ex_mut (z.1.trans e2) hD, acc ++ [w], upd_same, ?_⟩
    rw [cut_upd, List.range_succ, List.map_append]
    exact r1.append (Reps.cons (rw'.imm (Tups.cut h1)) reps_nil)
  · exact q D H' (fresh_back e1 hD) (e1.trans z.1) z.2
theorem el_rmap {n : Int} {ta : TE} {f : Nat → β} [Flat β] (h : ER K ta σ H n) (hn0 : 0 ≤ n) (hz : n ≤ 100000) (he : ∀ (k : Nat) H', (k : Int) < n → Ex H H' → ER K te ((wipe σ [i]).set i (some (.int k))) H' (f k)) :
    EL K (tLc (iRng1 (tCons ta tNil)) (gName i) tYes te [i]) σ H ((List.range n.toNat).map f) := el_rmapN h (by omega) hz he
theorem el_rfilterN {n : Int} {ta : TE} {f : Nat → β} {p : Nat → Bool} [Flat β] (h : ER K ta σ H n) (hn0 : -100000 ≤ n) (hz : n ≤ 100000) (ht : ∀ (k : Nat) H', (k : Int) < n → Ex H H' → ET K tt ((wipe σ [i]).set i (some (.int k))) H' (p k))
    (he : ∀ (k : Nat) H', (k : Int) < n → p k = true → Ex H H' → ER K te ((wipe σ [i]).set i (some (.int k))) H' (f k)) :
    EL K (tLc (iRng1 (tCons ta tNil)) (gName i) tt te [i]) σ H (((List.range n.toNat).filter p).map f) := fun H0 e0 Q q => h.evI H0 e0 _ fun H1 e1 => by
  refine ⟨n, rfl, by omega, by omega, fun D hD => lc_range (lo := 0) (n := n.toNat) (fun j H' => Ex H1 H' ∧ Own K H' D (((List.range j).filter p).map f)) ⟨Evl.Ex.new hD, by simpa using Own.nil⟩ (fun j H' hj z => ?_) (fun H' z => ?_)⟩
  · rw [Int.zero_add]
    refine ⟨wipe1 _, ht j H' (by omega) (e0.trans (e1.trans z.1)) H' (Ex.refl H') _ fun H2 e2 => ?_⟩
    cases hp : p j with
    | false =>
      refine (if_neg Bool.false_ne_true).mpr ⟨z.1.trans e2, ?_⟩
      rw [List.range_succ, List.filter_append, List.filter_cons_of_neg (by simp [hp]), List.filter_nil, List.append_nil]
      exact z.2.mono e2
    | true =>
      refine (if_pos rfl).mpr (he j H2 (by omega) hp (e0.trans ((e1.trans z.1).trans e2)) H2 (Ex.refl H2) _ fun w H3 e3 rw' => ?_)
      obtain ⟨acc, h1, r1⟩ := (z.2.mono (e2.trans e3)).ex
      refine ⟨acc, h1, Evl.sz_lt ?_, ex_mut (z.1.trans (e2.trans e3)) hD, acc ++ [w], upd_same, ?_⟩
      · rw [r1.len, List.length_map]
        have := List.length_filter_le p (List.range j)
        rw [List.length_range] at this
        omega
      · rw [cut_upd, List.range_succ, List.filter_append, List.filter_cons_of_pos (by simp [hp]), List.filter_nil, List.map_append]
        exact r1.append (Reps.cons (rw'.imm (Tups.cut h1)) reps_nil)
  · exact q D H' (fresh_back e1 hD) (e1.trans z.1) z.2
theorem el_rfilter {n : Int} {ta : TE} {f : Nat → β} {p : Nat → Bool} [Flat β] (h : ER K ta σ H n) (hn0 : 0 ≤ n) (hz : n ≤ 100000) (ht : ∀ (k : Nat) H', (k : Int) < n → Ex H H' → ET K tt ((wipe σ [i]).set i (some (.int k))) H' (p k))
    (he : ∀ (k : Nat) H', (k : Int) < n → p k = true → Ex H H' → ER K te ((wipe σ [i]).set i (some (.int k))) H' (f k)) :
    EL K (tLc (iRng1 (tCons ta tNil)) (gName i) tt te [i]) σ H (((List.range n.toNat).filter p).map f) := el_rfilterN h (by omega) hz ht he
end
end Z
set_option Elab.async false
set_option linter.all false
set_option maxRecDepth 100000
set_option maxHeartbeats 2000000
namespace Z
open PySem PySem.Spec PyProof.Rows L2
/-! ### t[::-1], t a tuple; xs * n, xs a list -/
section
variable {prog : Program} {w : World} {A : Around} {E : Value → Shared → Prop} {s : Shared}
theorem places_rev (n : Nat) : Builtin.Slice.slicePlaces ((n : Int) - 1) (-1) (-1) = n := by
  unfold Builtin.Slice.slicePlaces
  rw [if_neg (by decide)]
  by_cases h : (n : Int) - 1 > -1
  · rw [if_pos h, show (-(-1) : Int) = 1 by decide, Int.ediv_one]
    omega
  · rw [if_neg h]
    omega
theorem sliceApplied_rev {sl : Addr} {vs : Value} {n : Nat} {Q : Int × Int × Nat → Shared → Prop} (hs : s.heap.IsSliceOf sl .none .none vs) (ps : IsPart vs (some (-1)))
    (h : Q ((n : Int) - 1, -1, n) s) : wpAny (model prog w) A (Builtin.Slice.sliceApplied (.ref sl) (pure (n : Int))) Q E s := by
  obtain ⟨os, hos, hcs, hds⟩ := id hs
  unfold Builtin.Slice.sliceApplied Builtin.Slice.sliceFields
  refine wpAny_bind (wpAny_bind (wpAny_field hos hds (x := .none) rfl (wpAny_bind (wpAny_field hos hds (x := .none) rfl (wpAny_bind (wpAny_field hos hds (x := vs) rfl (wpAny_pure ?_)))))))
  refine wpAny_bind (HT.slicePart_ ps ?_)
  show wpAny _ _ (if ((-1 : Int) == 0) = true then _ else _) _ _ s
  rw [if_neg (by decide)]
  refine wpAny_bind (HT.slicePart_ .none (wpAny_bind (HT.slicePart_ .none (wpAny_bind (wpAny_pure ?_)))))
  show wpAny _ _ (pure ((n : Int) - 1, (-1 : Int), Builtin.Slice.slicePlaces ((n : Int) - 1) (-1) (-1))) _ _ s
  rw [places_rev]
  exact wpAny_pure h
theorem pick_rev (xs : Array Value) : ((List.range xs.size).filterMap fun (k : Nat) => xs[(((xs.size : Int) - 1) + (k : Int) * (-1)).toNat]?).toArray = xs.toList.reverse.toArray := by
  have e : ((List.range xs.size).filterMap fun (k : Nat) => xs[(((xs.size : Int) - 1) + (k : Int) * (-1)).toNat]?) = ((List.range xs.size).map fun k => xs.size - 1 - k).filterMap (xs[·]?) := by
    rw [List.filterMap_map]
    congr 1
    funext k
    have : (((xs.size : Int) - 1) + (k : Int) * (-1)).toNat = xs.size - 1 - k := by omega
    show xs[_]? = xs[xs.size - 1 - k]?
    rw [this]
  rw [e, PySem.W.krv_range, List.filterMap_reverse, PySem.W.krv_all]
theorem getItem_tuple_rev {t sl : Addr} {items : Array Value} {vs : Value} {Q : Value → Shared → Prop} (ht : IsTup s.heap t items) (hs : s.heap.IsSliceOf sl .none .none vs) (ps : IsPart vs (some (-1)))
    (h : Q (.ref s.heap.objs.size) { s with heap := s.heap.push { cls := .type "tuple", data := .seq items.toList.reverse.toArray } })
    (hsz : items.size ≤ sizeLine) : wpAny (model prog w) A (getItem (.ref t) (.ref sl)) Q E s := by
  have htake : sizeOk (.seq items.toList.reverse.toArray) := by
    show items.toList.reverse.toArray.size ≤ sizeLine
    rw [List.size_toArray, List.length_reverse, Array.length_toList]
    exact hsz
  obtain ⟨os, hos, hcs, hds⟩ := id hs
  have hTs : s.TypeIs (.ref sl) "slice" := ⟨os, hos, hcs⟩
  unfold getItem
  try with_reducible refine wpAny_holding ?_
  first | refine wpAny_bind (wpAny_pure ?_) | skip
  refine wpAny_bind (wpAny_sequenceKey ht.typeIs (by decide) ?_)
  refine wpAny_bind (wpAny_callSpecial?_slot (name := Str.ofString "__getitem__") ht.typeIs PyProof.Rows.slot_tuple_getitem
    (wpAny_call_entry PyProof.Rows.slot_tuple_getitem ht.typeIs entry_tuple_getitem ?_ (args_tuple_getitem _ _)))
  show wpAny _ _ (Builtin.Tuple.tupleItemsOf (.ref t) >>= _) _ _ s
  refine wpAny_bind (PyProof.Rows.tupleItemsOf_ ht ?_)
  refine wpAny_bind (wpAny_typeOf hTs ?_)
  rw [if_pos (by decide)]
  refine wpAny_bind (sliceApplied_rev hs ps ?_)
  have hno : ¬ ((((items.size : Int) - 1 == 0) && (-1 : Int) == 1 && items.size == items.size) = true) := by
    intro q
    rw [Bool.and_eq_true, Bool.and_eq_true] at q
    exact absurd q.1.2 (by decide)
  show wpAny _ _ (if (((items.size : Int) - 1 == 0) && (-1 : Int) == 1 && items.size == items.size) = true then _ else _) _ _ s
  rw [if_neg hno, pick_rev]
  first
    | exact wpAny_bind (m := Builtin.Tuple.tupleExact _) (wpAny_newObj_type (wpAny_pure ⟨_, rfl, wpAny_pure h⟩) htake)
    | exact wpAny_bind (m := Builtin.Tuple.tupleExact _) (wpAny_newObj_type (wpAny_bind (wpAny_pure (wpAny_pure ⟨_, rfl, wpAny_pure h⟩))) htake)
    | exact wpAny_bind (wpAny_bind (m := Builtin.Tuple.tupleExact _) (wpAny_newObj_type (wpAny_pure (wpAny_pure ⟨_, rfl, wpAny_pure h⟩)) htake))
    | exact wpAny_bind (wpAny_bind (m := Builtin.Tuple.tupleExact _) (wpAny_newObj_type (wpAny_pure ⟨_, rfl, wpAny_pure h⟩) htake))
end
def tRevT (K : PySem.W.Frag) (te : TE) : TE := fun σ H Q => te σ H fun x H1 => ∃ a xs, x = .ref a ∧ SqT K H1 a xs ∧ ∀ p, H1 p = none → Q (.ref p) (upd H1 p (.tup xs.reverse))
theorem pe_revT {X : Cx} {e : Expr} {te : TE} {k : Nat} {p1 p2 p3 pos : Pos} (he : PE X e te) : PE X (.Subscript e (.Slice none none (some (.UnaryOp .USub (.Constant (.int 1) k p1) p2)) p3) pos) (tRevT X.K te) := by
  refine ⟨fun pins s σ H Q I h => ?_⟩
  refine Subscript_ (thn (he.run pins s σ H _ I h) fun v s1 ⟨x, H1, I1, r1, q1⟩ => ?_)
  obtain ⟨a, xs, ex, hx, q⟩ := q1
  subst ex
  cases r1
  have hst : PO X (some (.UnaryOp .USub (.Constant (.int 1) k p1) p2)) (tPart (tUn (rU fun i => .int (-i)) (tC (.int 1)))) := po_some (pe_un un_neg pe_int)
  refine wpAny_Slice (thn (po_none.run pins s1 σ H1 (fun o H2 => o = none ∧ H2 = H1) I1 ⟨rfl, rfl⟩) fun vl s2 ⟨l, H2, I2, pl, el, e2⟩ => ?_)
  subst el e2
  refine thn (po_none.run pins s2 σ H2 (fun o H3 => o = none ∧ H3 = H2) I2 ⟨rfl, rfl⟩) fun vu s3 ⟨u, H3, I3, pu, eu, e3⟩ => ?_
  subst eu e3
  refine thn (hst.run pins s3 σ H3 (fun o H4 => o = some (-1) ∧ H4 = H3) I3 ⟨1, rfl, -1, rfl, rfl, rfl⟩) fun vs s4 ⟨o, H4, I4, ps, eo, e4⟩ => ?_
  subst eo e4
  have I5 : Inv X pins σ H4 { s4 with heap := s4.heap.push { cls := .type "slice", data := .fields #[vl, vu, vs] } } := I4.kept (t' := s4.toks) fun b ob q => Heap.get?_push_of_some _ q
  obtain ⟨its, r, ht, hz⟩ := I5.tuple hx
  have hlen := r.length
  show wpAny (model X.prog X.w) X.A (subscriptTail e (.Slice none none (some (.UnaryOp .USub (.Constant (.int 1) k p1) p2)) p3) (.ref a) (.ref s4.heap.objs.size)) (EP X pins σ Q) X.xe { s4 with heap := s4.heap.push { cls := .type "slice", data := .fields #[vl, vu, vs] } }
  refine tail_any (ops := [.ref a, .ref s4.heap.objs.size]) ht.typeIs (PyProof.Rows.slot_tuple_getitem.lookup) ?_ (by with_unfolding_all rfl)
  cases pl
  cases pu
  refine getItem_tuple_rev ht (Heap.IsSliceOf.new _ .none .none vs) ps ?_ (by rw [List.size_toArray]; omega)
  refine ⟨.ref _, _, I5.laid (t' := s4.toks) (o := .tup xs.reverse) (fun b ob q => Heap.get?_push_of_some _ q) (Nat.le_refl _) ?_, rfl, q _ (I5.hok.fresh (Nat.le_refl _))⟩
  exact ⟨by rw [List.length_reverse]; exact hz, _, r.reverse, IsTup.new _ _⟩
theorem k_pe_revT {K : PySem.W.Frag} {X : Cx} {x : Expr} {te : TE} (e : X.K = K) (h : PE X x (tRevT X.K te)) : PE X x (tRevT K te) := e ▸ h
end Z
namespace Z
open PySem L2
open Evl (Ex)
open Dat
section
variable {K : PySem.W.Frag} {α : Type} [Dat α] {σ : L2.St} {H : Hp} {ta tb : TE}
theorem er_revT {xs : Tp α} (ha : ER K ta σ H xs) : ER K (tRevT K ta) σ H (show Tp α from List.reverse (α := α) xs) := fun H1 e Q q =>
  ha H1 e _ fun v H2 e2 r => by
    obtain ⟨a, vs, rfl, s, r⟩ := (Rep.tup r)
    exact ⟨a, vs, rfl, s, fun p hp => q _ _ (e2.trans (Evl.Ex.new hp)) (rep_tup (SqT.of upd_same) (r.reverse.mono (Evl.Ex.new hp)))⟩
theorem reps_rep {vs : List V} {xs : List α} (r : Reps K H vs xs) (k : Nat) : Reps K H (List.replicate k vs).flatten (List.replicate k xs).flatten := by
  induction k with
  | zero => exact reps_nil
  | succ k ih =>
    rw [List.replicate_succ, List.replicate_succ, List.flatten_cons, List.flatten_cons]
    exact Reps.append r ih
theorem el_rep {xs : List α} {n : Int} (ha : EL K ta σ H xs) (hb : ER K tb σ H n) (h0 : n ≤ 100000) (h1 : -100000 ≤ n) (hz : xs.length * n.toNat ≤ 100000) : EL K (tOp rRep ta tb) σ H (List.replicate n.toNat xs).flatten := fun H1 e Q q =>
  ha H1 e _ fun p H2 hp e2 o => hb.evI H2 (e.trans e2) _ fun H3 e3 => by
    obtain ⟨vs, h, r⟩ := (o.mono e3).ex
    refine ⟨p, n, vs, rfl, rfl, h, by omega, by omega, Evl.sz_of (by rw [r.len]; exact hz), fun t ht => q t _ (fresh_back (e2.trans e3) ht) ((e2.trans e3).trans (Evl.Ex.new ht)) ⟨_, upd_same, ?_⟩⟩
    rw [cut_updn ht]
    exact reps_rep (r.mono (cut_ex (H := H3) (p := p))) _
end
end Z
set_option Elab.async false
set_option linter.all false
set_option maxRecDepth 100000
set_option maxHeartbeats 2000000
/-! Z: defs that may be called where an exception is handled (they walk nothing, raise nothing). -/
namespace Z
open PySem PySem.Spec PyProof.Rows L2
structure RoomW (k : Nat) (A : Around) : Prop where
  dp : A.depth + 3 * k + 5 < recursionLimit
  un : A.units + 16 * k + 200 < cLine
theorem RoomW.deeper {k : Nat} {A : Around} (r : RoomW (k + 1) A) (env : Env) : RoomW k (A.deeper env) :=
  ⟨by have := r.dp; show A.depth + 1 + 3 * k + 5 < _; omega, by have := r.un; show A.units + 3 + 16 * k + 200 < _; omega⟩
theorem RoomW.depth {k : Nat} {A : Around} (r : RoomW k A) : A.depth < recursionLimit := by have := r.dp; omega
theorem RoomW.units {k : Nat} {A : Around} (r : RoomW k A) : A.units + 64 < cLine := by have := r.un; omega
theorem RoomW.mono {j k : Nat} {A : Around} (r : RoomW k A) (h : j ≤ k) : RoomW j A := ⟨by have := r.dp; omega, by have := r.un; omega⟩
theorem roomW {j k : Nat} {A : Around} {v : Option Value} (r : Room k A) (h : j ≤ k) : RoomW j (A.mark v) := ⟨by have := r.dp; show A.depth + 3 * j + 5 < _; omega, by have := r.un; show A.units + 16 * j + 200 < _; omega⟩
structure FnW (P : Program) (w : World) (K : PySem.W.Frag) (mg : Str → Option Value) (base : Heap) (CX : CXT) (k : Nat) (f : Addr) (fd : FuncData) (ps : List Str) (sp : Sp) : Prop where
  len : ∀ vs H Q E, sp vs H Q E → vs.length = ps.length
  run : ∀ (A : Around) (outer : List Env) (s : Shared) (H : Hp) (args : Args) (us : List Value) (vs : List V) (Q : VK) (E : XK), RoomW k A → Env0 P w K mg base A outer s H → BindsTo s fd args (ps.zip us) → Vals vs us → sp vs H Q E →
    codeAny (model P w) A (.call (.ref f) args) (CR CX outer P w H s Q E) s
theorem FnW.ok {P : Program} {w : World} {K : PySem.W.Frag} {mg : Str → Option Value} {base : Heap} {CX : CXT} {k : Nat} {f : Addr} {fd : FuncData} {ps : List Str} {sp : Sp} (F : FnW P w K mg base CX k f fd ps sp) : FnOk P w K mg base CX k f fd ps sp :=
  ⟨F.len, fun A outer s H args us vs Q E hr => F.run A outer s H args us vs Q E ⟨hr.dp, hr.un⟩⟩
def cxW (CX : CXT) (P : Program) (w : World) (K : PySem.W.Frag) (mg : Str → Option Value) (base : Heap) (N : List Str) (qual : Str) (scope : Scope) (f : Addr) (cd : Value) (A : Around) (outer : List Env) (s : Shared) (H : Hp) (E : XK) : Cx :=
  { cxOf CX P w K mg base N qual scope f cd A outer s H E with calm := false }
theorem inv_startW {CX : CXT} {P : Program} {w : World} {K : PySem.W.Frag} {mg : Str → Option Value} {base : Heap} {N ps : List Str} {qual : Str} {scope : Scope} {f : Addr} {cd : Value} {A : Around} {outer : List Env} {s s1 : Shared} {H : Hp} {E : XK} {us : List Value} {vs : List V}
    (S : FnScope N ps scope) (e0 : Env0 P w K mg base A outer s H) (hl : vs.length = ps.length) (r : Vals vs us)
    (x : InCallC s s.heap.objs.size (bindL (envOfC qual scope s.heap.objs.size f cd).kindOf (ps.zip us) fun _ => none) (cellsFrom (s.heap.objs.size + 1) scope.names []) (bindC (envOfC qual scope s.heap.objs.size f cd).kindOf (ps.zip us) fun _ => none) s1) :
    Inv (cxW CX P w K mg base N qual scope f cd A outer s H E) [] (L2.start N vs) H s1 := by
  have hpl : ps.length ≤ N.length := by have := congrArg List.length S.pre; rw [List.length_take] at this; omega
  obtain ⟨h1, tk, rfl, hk⟩ := x.done
  have noA : ∀ b : Addr, b ∉ (cxW CX P w K mg base N qual scope f cd A outer s H E).ex := fun b z => absurd (show b ∈ ([] : List Addr) from z) (by simp)
  refine ⟨⟨e0.mod, S.kind, rfl, rfl, Nat.le_refl _, fun y z c h1 h2 => ?_, fun y hy => ?_, fun y c _ h => ?_, (fun z => Bool.noConfusion (show false = true from z)), Around.frames_deeper e0.frames, .inr ⟨rfl, rfl⟩, fun b z => absurd z (noA b), e0.bs, e0.bsz, fun b _ _ => noA b, fun b z => absurd z (noA b), e0.funs, e0.frf⟩,
    rfl, e0.bare, Un.kept hk, ⟨_, x.toInCall.ns, fun i y v h1 h2 h3 => ?_⟩, fun y c h => ⟨_, x.cell y c h⟩, e0.hok.fresh (Nat.le_refl _), fun y c h => ?_, fun q hq => absurd (show q ∈ ([] : List (Addr × Obj)) from hq) (by simp), e0.hok.kept hk, ?_⟩
  · exact name_of_addr x.apart (PySem.mem_of_lookup h1) (PySem.mem_of_lookup h2)
  · have hy : scope.names.lookup y = some .cell ∨ scope.names.lookup y = some .free := hy
    rcases hy with hy | hy
    · exact cell_has hy
    · exact absurd rfl (S.nofree _ (PySem.mem_of_lookup hy))
  · exact Nat.le_of_lt (x.above y c (PySem.mem_of_lookup h))
  · have hi : i < vs.length := by
      unfold L2.start at h2
      by_cases hi : i < vs.length
      · exact hi
      · rw [List.getElem?_append_right (by simpa using hi)] at h2
        rw [List.getElem?_replicate] at h2
        split at h2 <;> cases h2
    have ha : vs[i]? = some v := by
      unfold L2.start at h2
      rw [List.getElem?_append_left (by simpa using hi), List.getElem?_map] at h2
      cases e : vs[i]? with
      | none => rw [e] at h2; cases h2
      | some a => rw [e] at h2; cases h2; rfl
    obtain ⟨u, hu, rv⟩ := r.get ha
    have hp : ps[i]? = some y := by
      rw [← S.pre, List.getElem?_take_of_lt (by omega)]; exact h1
    have ndP : ps.Nodup := by rw [← S.pre]; exact S.nd.sublist (List.take_sublist _ _)
    refine ⟨u, rv, ?_⟩
    rcases S.par y (List.mem_of_getElem? hp) with k | k
    · exact .inl ⟨k, bindL_get ndP hp hu k⟩
    · obtain ⟨c, e⟩ := cell_has (n := s.heap.objs.size + 1) k
      refine .inr ⟨.inl k, c, e, ?_⟩
      have q := x.cell y c e
      rw [bindC_get ndP hp hu (by show scope.names.lookup y ≠ _; rw [k]; decide)] at q
      exact q
  · exact e0.hok.fresh (Nat.le_of_lt (x.above y c (PySem.mem_of_lookup h)))
  · unfold L2.start
    show _ = N.length
    rw [List.length_append, List.length_map, List.length_replicate]
    omega
theorem fun_okW {CX : CXT} {P : Program} {w : World} {K : PySem.W.Frag} {mg : Str → Option Value} {base : Heap} {k : Nat} {f : Addr} {fd : FuncData} {x qual : Str} {st : Stmt} {N ps : List Str} {sp : Sp} (F : Fun K x qual st f fd) (S : FnScope N ps (defScope st))
    (len : ∀ vs H Q E, sp vs H Q E → vs.length = ps.length)
    (hbody : ∀ (cdv : Value) (A : Around) (outer : List Env) (s : Shared) (H : Hp) (vs : List V) (Q : VK) (E : XK), RoomW k (A.deeper (envOfC qual (defScope st) s.heap.objs.size f cdv)) → sp vs H Q E →
      ∃ t, PSs (cxW CX P w K mg base N qual (defScope st) f cdv A outer s H E) (defBody st) t ∧ t { nx := fun _ H' => Q .non H', rt := Q } (L2.start N vs) H) : FnW P w K mg base CX (k + 1) f fd ps sp := by
  obtain ⟨oc, od, kV, doc, pm, an, cdv, ct, osl, rfl, lk, hcd⟩ := F.ex
  refine ⟨len, fun A outer s H args us vs Q E hr e0 hb r hsp => ?_⟩
  have hl := len _ _ _ _ hsp
  have KX : K.In s.heap := e0.mod.kin.keeps fun b o e => (e0.bs b o e).1
  have lim : s.heap.NoLimit := e0.mod.nolimit.keeps fun b o e => (e0.bs b o e).1
  have hkind : ∀ y ∈ ps.zip us, (defScope st).names.lookup y.1 = some .local ∨ ((defScope st).names.lookup y.1 = some .cell ∧ ((cellsFrom (s.heap.objs.size + 1) (defScope st).names []).lookup y.1).isSome = true) := fun ⟨n, v⟩ hy => by
    rcases S.par n (List.of_mem_zip hy).1 with q | q
    · exact .inl q
    · exact .inr ⟨q, PySem.W.cellsFrom_some _ _ _ (.inl q)⟩
  refine codeAny_call_function hr.depth (KX _ _ lk) rfl S.co S.gen rfl (PySem.W.codeRec_of KX hcd) (hb _ _ _ _ ?_)
  refine wpAny_newFunctionEnv_cells S.kind hkind fun env he s1 x => ?_
  subst he
  refine ⟨lim.keeps x.toInCall.keep, codeAny_func ?_⟩
  obtain ⟨t, ht, hq⟩ := hbody cdv A outer s H vs Q E (hr.deeper _) hsp
  have I : Inv (cxW CX P w K mg base N qual (defScope st) f cdv A outer s H E) [] (L2.start N vs) H s1 := inv_startW S e0 hl r x
  refine wpAny_mono (ht.run [] s1 (L2.start N vs) H _ I hq) (fun fl s' hs => ?_) fun e s' hs => hs
  have fin : ∀ {σ' : L2.St} {H' : Hp} {v : V} {u : Value}, Inv (cxW CX P w K mg base N qual (defScope st) f cdv A outer s H E) [] σ' H' s' → RelV v u → Q v H' → CE outer P w H s Q u s' :=
    fun {σ' H' v u} J rv q => ⟨v, H', J.os, J.bare, J.base, J.hok, rv, q⟩
  cases fl with
  | ret u =>
    obtain ⟨v, σ', H', J, rv, q⟩ := hs
    exact fin J rv q
  | next =>
    obtain ⟨σ', H', J, q⟩ := hs
    exact fin (v := V.non) (u := Value.none) J rfl q
  | brk =>
    obtain ⟨_, _, _, q⟩ := hs
    exact False.elim q
  | cont =>
    obtain ⟨_, _, _, q⟩ := hs
    exact False.elim q
section
variable {X : Cx} {CX : CXT} {k : Nat} {f C : Addr} {fd : FuncData} {ps : List Str} {sp : Sp} {E : XK} {x m : Str} {q pos apos : Pos} {e o : Expr} {es : List Expr} {ta : TE} {t : TA}
theorem run_fnW {pins : List (Addr × Obj)} {σ : L2.St} {H : Hp} {s : Shared} {Q : VK} {us : List Value} {vs : List V} (F : FnW X.prog X.w X.K X.mg X.base CX k f fd ps sp) (hr : RoomW k X.A) (hb : Binds X.K fd ps []) (hx : Passes CX X E)
    (I : Inv X pins σ H s) (r : Vals vs us) (h : sp vs H Q E) : wpAny (model X.prog X.w) X.A (call (.ref f) us) (EP X pins σ Q) X.xe s := by
  have hl : us.length = ps.length := by rw [← r.length]; exact F.len _ _ _ _ h
  have b := hb s us I.kIn (by rw [List.append_nil]; exact hl)
  rw [List.append_nil] at b
  refine wpAny_call (codeAny_mono (F.run X.A X.stack s H ⟨us, []⟩ us vs Q E hr I.env0 b r h) fun r s' hq => ?_)
  cases r with
  | error e => exact hx pins σ H s e s' I hq
  | ok fl =>
    cases fl with
    | ret u => exact I.after hq
    | next => exact False.elim hq
    | brk => exact False.elim hq
    | cont => exact False.elim hq
theorem pe_callW (F : FnW X.prog X.w X.K X.mg X.base CX k f fd ps sp) (hr : RoomW k X.A) (hg : Gl X x) (hm : X.mg x = some (.ref f)) (hk : PySem.W.keepIn X.K (.ref f) = true) (hb : Binds X.K fd ps []) (hx : Passes CX X E)
    (ha : PA X (e :: es) t) (hdb : (x == ("__debug__" : Str)) = false := by decide) (he : starEach (e :: es) X.env = (false, eval e X.env) :: starEach es X.env := by rfl) (hpl : (backTo pos (starEach es X.env)).any (·.1) = false := by rfl) :
    PE X (.Call (.Name x q) (e :: es) [] pos) (tCall sp [] E t) := by
  refine ⟨fun pins s σ H Q I h => ?_⟩
  refine wpAny_Call_Name_kw (ld_glob I hg hm ?_ hdb)
  refine PySem.W.callWith_K (h₀ := X.base) I.ok.mod.kin hk (thn (ha.run pos pins s σ H _ I h) fun us s1 ⟨vs, H1, I1, r, q⟩ => ⟨I1.kIn, ?_⟩) he hpl
  have q : sp (vs ++ []) H1 Q E := q
  rw [List.append_nil] at q
  exact run_fnW F hr hb hx I1 r q
end
end Z
set_option Elab.async false
set_option linter.all false
set_option maxRecDepth 100000
set_option maxHeartbeats 2000000
set_option autoImplicit false
namespace Z
open PySem L2
open Evl (Ex)
open Dat
section
variable {K : PySem.W.Frag} {α β γ δ : Type} [Dat α] [Dat β] [Dat γ] [Dat δ] {σ : L2.St} {G H H' : Hp} {te ta tb tc td : TE} {tt tu : TT} {i j : Int}
theorem er_add (ha : ER K ta σ H i) (hb : ER K tb σ H j) : ER K (tOp (rI0 fun a b => .int (a + b)) ta tb) σ H (i + j) := er_I0 (g := fun a b => a + b) ha hb
theorem er_sub (ha : ER K ta σ H i) (hb : ER K tb σ H j) : ER K (tOp (rI0 fun a b => .int (a - b)) ta tb) σ H (i - j) := er_I0 (g := fun a b => a - b) ha hb
theorem er_mul (ha : ER K ta σ H i) (hb : ER K tb σ H j) (hc : CMul i j) : ER K (tOp (rI CMul fun a b => .int (a * b)) ta tb) σ H (i * j) := er_I (g := fun a b => a * b) ha hb hc
theorem er_fdiv (ha : ER K ta σ H i) (hb : ER K tb σ H j) (hc : CDiv i j) : ER K (tOp (rI CDiv fun a b => .int (a / b)) ta tb) σ H (i / j) := er_I (g := fun a b => a / b) ha hb hc
theorem er_mod (ha : ER K ta σ H i) (hb : ER K tb σ H j) (hc : 0 < j) : ER K (tOp (rI (fun _ j => 0 < j) fun a b => .int (a % b)) ta tb) σ H (i % j) := er_I (g := fun a b => a % b) ha hb hc
theorem er_pow (ha : ER K ta σ H i) (hb : ER K tb σ H j) (hc : CPow i j) : ER K (tOp (rI CPow fun a b => .int (a ^ b.toNat)) ta tb) σ H (i ^ j.toNat) := er_I (g := fun a b => a ^ b.toNat) ha hb hc
theorem er_lt (ha : ER K ta σ H i) (hb : ER K tb σ H j) : ER K (tOp (rI0 fun a b => .bl (decide (a < b))) ta tb) σ H (decide (i < j)) := er_IB (g := fun a b => decide (a < b)) ha hb
theorem er_le (ha : ER K ta σ H i) (hb : ER K tb σ H j) : ER K (tOp (rI0 fun a b => .bl (decide (a ≤ b))) ta tb) σ H (decide (i ≤ j)) := er_IB (g := fun a b => decide (a ≤ b)) ha hb
theorem er_gt (ha : ER K ta σ H i) (hb : ER K tb σ H j) : ER K (tOp (rI0 fun a b => .bl (decide (b < a))) ta tb) σ H (decide (j < i)) := er_IB (g := fun a b => decide (b < a)) ha hb
theorem er_ge (ha : ER K ta σ H i) (hb : ER K tb σ H j) : ER K (tOp (rI0 fun a b => .bl (decide (b ≤ a))) ta tb) σ H (decide (j ≤ i)) := er_IB (g := fun a b => decide (b ≤ a)) ha hb
theorem er_isN : ER K ta σ H () → ER K (tOp (fun x y H Q => y = .non ∧ Q (.bl (decide (x = .non))) H) ta (tC .non)) σ H true := fun ha H1 e Q q => ha H1 e _ fun v H2 e2 r => ⟨rfl, by rw [(Rep.unit r)]; exact q _ H2 e2 (rep_bool _)⟩
/-- a list of ints that is read, the script -/
theorem er_seqix {xs : List Int} {a : Addr} (hs : SqL K G a (xs.map V.int)) (e : Ex G H) (ha : EV K ta σ H (.ref a)) (hb : ER K tb σ H i) {x : Int} (hx : atI xs i = some x) : ER K (tOp (rIxL K) ta tb) σ H x :=
  er_ixL (xs := xs) (ha.er (rep_list (Evl.ex_l e hs) (reps_ints xs))) hb hx
theorem atI_map {xs : List α} {f : α → β} {i : Int} {x : α} (h : atI xs i = some x) : atI (xs.map f) i = some (f x) := by
  unfold atI at h ⊢
  rw [List.length_map]
  cases e : ixN xs.length i with
  | none => rw [e] at h; cases h
  | some j =>
    rw [e] at h
    show (xs.map f)[j]? = some (f x)
    rw [List.getElem?_map, show xs[j]? = some x from h]
    rfl
theorem atI_nn {xs : List α} {i : Int} (h0 : 0 ≤ i) (h1 : i < xs.length) : ∃ x, atI xs i = some x ∧ xs[i.toNat]? = some x := by
  have hl : i.toNat < xs.length := by omega
  refine ⟨xs[i.toNat], ?_, by simp [hl]⟩
  have e : ixN xs.length i = some i.toNat := by
    unfold ixN
    rw [if_pos h0, if_pos h1]
  unfold atI
  rw [e]
  simp [hl]
theorem atI_toNat {xs : List α} {i : Int} {x : α} (h0 : 0 ≤ i) (h : xs[i.toNat]? = some x) : atI xs i = some x := by
  have hl := (List.getElem?_eq_some_iff.mp h).1
  have e : ixN xs.length i = some i.toNat := by
    unfold ixN
    rw [if_pos h0, if_pos (by omega)]
  unfold atI
  rw [e]
  exact h
theorem atI_m1 {xs : List α} {x : α} (h : xs.getLast? = some x) : atI xs (-1) = some x := by
  have hne : xs ≠ [] := by intro e; rw [e] at h; cases h
  obtain ⟨ys, rfl⟩ : ∃ ys, xs = ys ++ [x] := by
    refine ⟨xs.dropLast, ?_⟩
    have e := List.dropLast_concat_getLast hne
    rw [List.getLast?_eq_some_getLast hne] at h
    rw [← Option.some.inj h]
    exact e.symm
  exact atI_last ys x
/-! ### isinstance -/
theorem kitOf {a b : String} {r : Bool} (h : kitB a b = some r) : PySem.W.kitOne K (.type a) (.type b) = some r := kit_ty h
theorem tyx_list {v : V} {xs : List α} (h : Rep K H v xs) : TyX K H v (.type "list") := by
  obtain ⟨a, vs, rfl, s, _⟩ := h.list
  rcases s with (s | ⟨o, s⟩) | ⟨o, its, n, s, c, _⟩
  · exact .base (.lst s)
  · exact .base (.frz s)
  · exact .kList s c
theorem tyx_tup {v : V} {xs : Tp α} (h : Rep K H v xs) : TyX K H v (.type "tuple") := by
  obtain ⟨a, vs, rfl, s, _⟩ := h.tup
  rcases s with (s | ⟨o, s⟩) | ⟨o, its, n, s, c, _⟩
  · exact .base (.tup s)
  · exact .fTuple s
  · exact .kTuple s c
theorem tyx_pair {v : V} {x : α × β} (h : Rep K H v x) : TyX K H v (.type "tuple") := by
  obtain ⟨a, u, w, rfl, s, _⟩ := h.pair
  rcases s with (s | ⟨o, s⟩) | ⟨o, its, n, s, c, _⟩
  · exact .base (.tup s)
  · exact .fTuple s
  · exact .kTuple s c
theorem tyx_int {v : V} {x : Int} (h : Rep K H v x) : TyX K H v (.type "int") := by rw [h.int]; exact .base (.int x)
theorem tyx_bool {v : V} {x : Bool} (h : Rep K H v x) : TyX K H v (.type "bool") := by rw [h.bool]; exact .base (.bl x)
theorem tyx_str {v : V} {x : Str} (h : Rep K H v x) : TyX K H v (.type "str") := by rw [h.str]; exact .base (.str x)
theorem er_isi {x : α} {n m : String} {b : Bool} (ty : ∀ H v, Rep K H v x → TyX K H v (.type n)) (hk : kitB n m = some b) (ha : ER K ta σ H x) : ER K (tCB (rIsi K) (tCons ta (tCons (tC (.ty m)) tNil))) σ H b := fun H1 e Q q =>
  ha H1 e _ fun v H2 e2 r => ⟨v, .ty m, .type n, .type m, b, rfl, .ty m, ty H2 v r, kitOf hk, q _ H2 e2 (rep_bool _)⟩
theorem er_isi_list {xs : List α} (ha : ER K ta σ H xs) : ER K (tCB (rIsi K) (tCons ta (tCons (tC (.ty "list")) tNil))) σ H true := er_isi (fun _ _ => tyx_list) (by decide +kernel) ha
theorem er_isi_tup {xs : Tp α} (ha : ER K ta σ H xs) : ER K (tCB (rIsi K) (tCons ta (tCons (tC (.ty "tuple")) tNil))) σ H true := er_isi (fun _ _ => tyx_tup) (by decide +kernel) ha
theorem er_isi_pair {x : α × β} (ha : ER K ta σ H x) : ER K (tCB (rIsi K) (tCons ta (tCons (tC (.ty "tuple")) tNil))) σ H true := er_isi (fun _ _ => tyx_pair) (by decide +kernel) ha
theorem er_isi_int (ha : ER K ta σ H i) : ER K (tCB (rIsi K) (tCons ta (tCons (tC (.ty "int")) tNil))) σ H true := er_isi (fun _ _ => tyx_int) (by decide +kernel) ha
theorem er_isi_intb (ha : ER K ta σ H i) : ER K (tCB (rIsi K) (tCons ta (tCons (tC (.ty "bool")) tNil))) σ H false := er_isi (fun _ _ => tyx_int) (by decide +kernel) ha
theorem er_isi_bool {b : Bool} (ha : ER K ta σ H b) : ER K (tCB (rIsi K) (tCons ta (tCons (tC (.ty "bool")) tNil))) σ H true := er_isi (fun _ _ => tyx_bool) (by decide +kernel) ha
theorem er_isi_booli {b : Bool} (ha : ER K ta σ H b) : ER K (tCB (rIsi K) (tCons ta (tCons (tC (.ty "int")) tNil))) σ H true := er_isi (fun _ _ => tyx_bool) (by decide +kernel) ha
/-! ### [x] * n -/
theorem el_rep1 {x : α} {n : Int} (ha : EL K ta σ H [x]) (hb : ER K tb σ H n) (h0 : n ≤ 100000) (h1 : -100000 ≤ n) : EL K (tOp rRep ta tb) σ H (List.replicate n.toNat x) := fun H1 e Q q =>
  ha H1 e _ fun p H2 hp e2 o => hb.evI H2 (e.trans e2) _ fun H3 e3 => by
    obtain ⟨vs, h, r⟩ := (o.mono e3).ex
    obtain ⟨v, ws, rfl, r1, r2⟩ := Reps.inv r
    obtain rfl := Reps.nilI r2
    refine ⟨p, n, [v], rfl, rfl, h, by omega, by omega, Evl.sz_of (by rw [List.length_singleton]; omega), fun t ht => q t _ (fresh_back (e2.trans e3) ht) ((e2.trans e3).trans (Evl.Ex.new ht)) ⟨_, upd_same, ?_⟩⟩
    rw [cut_updn ht]
    have r1' := r1.mono (cut_ex (H := H3) (p := p))
    generalize n.toNat = k
    induction k with
    | zero => exact reps_nil
    | succ k ih =>
      rw [List.replicate_succ, List.replicate_succ, List.flatten_cons]
      exact Reps.append (Reps.cons r1' reps_nil) ih
end
/-! ### equality of data -/
section
variable {α : Type} [Dat α]
theorem eqvAll_map [DecidableEq α] [DatEq α] : ∀ xs ys : List α, PyData.eqvAll (xs.map enc) (ys.map enc) = decide (xs = ys)
  | [], [] => by simp [PyData.eqvAll]
  | [], y :: ys => by simp [PyData.eqvAll]
  | x :: xs, [] => by simp [PyData.eqvAll]
  | x :: xs, y :: ys => by
    show (PyData.eqv (enc x) (enc y) && PyData.eqvAll (xs.map enc) (ys.map enc)) = _
    rw [DatEq.eqv, eqvAll_map xs ys]
    by_cases h : x = y <;> by_cases h' : xs = ys <;> simp [h, h']
theorem lay_map [DecidableEq α] [DatEq α] : ∀ xs : List α, PyData.canLayAll0 (xs.map enc) = true
  | [] => rfl
  | x :: xs => by
    show ((enc x).canLay0 && PyData.canLayAll0 (xs.map enc)) = true
    rw [DatEq.lay, lay_map xs] <;> rfl
end
instance : DatEq Int := ⟨fun _ => rfl, fun x y => by
  show PyData.eqv (.int x) (.int y) = _
  simp [PyData.eqv, Bool.beq_eq_decide_eq]⟩
instance : DatEq Bool := ⟨fun _ => rfl, fun x y => by
  show PyData.eqv (.bool x) (.bool y) = _
  simp [PyData.eqv, Bool.beq_eq_decide_eq]⟩
instance {α : Type} [Dat α] [DecidableEq α] [DatEq α] : DatEq (List α) := ⟨fun xs => by
  show (PyData.list (xs.map enc)).canLay0 = true
  exact lay_map xs, fun xs ys => by
  show PyData.eqv (.list (xs.map enc)) (.list (ys.map enc)) = _
  rw [PyData.eqv]
  exact eqvAll_map xs ys⟩
instance {α : Type} [Dat α] [DecidableEq α] [DatEq α] : DatEq (Tp α) := ⟨fun xs => by
  show (PyData.tuple (List.map enc xs)).canLay0 = true
  exact lay_map (α := α) xs, fun xs ys => by
  show PyData.eqv (.tuple (List.map enc xs)) (.tuple (List.map enc ys)) = _
  rw [PyData.eqv]
  exact eqvAll_map (α := α) xs ys⟩
instance {α β : Type} [Dat α] [Dat β] [DecidableEq α] [DecidableEq β] [DatEq α] [DatEq β] : DatEq (α × β) := ⟨fun x => by
  show ((enc x.1).canLay0 && ((enc x.2).canLay0 && true)) = true
  rw [DatEq.lay, DatEq.lay] <;> rfl, fun x y => by
  show PyData.eqv (.tuple [enc x.1, enc x.2]) (.tuple [enc y.1, enc y.2]) = _
  rw [PyData.eqv]
  show (PyData.eqv (enc x.1) (enc y.1) && (PyData.eqv (enc x.2) (enc y.2) && true)) = _
  rw [DatEq.eqv, DatEq.eqv]
  obtain ⟨x1, x2⟩ := x
  obtain ⟨y1, y2⟩ := y
  by_cases h : x1 = y1 <;> by_cases h' : x2 = y2 <;> simp [h, h']⟩
theorem depth_map {α : Type} [Dat α] {n : Nat} [Deep α n] : ∀ xs : List α, PyData.depthAll (xs.map enc) ≤ n
  | [] => by
    show PyData.depthAll [] ≤ n
    rw [PyData.depthAll]
    exact Nat.zero_le _
  | x :: xs => by
    show PyData.depthAll (enc x :: xs.map enc) ≤ n
    rw [PyData.depthAll]
    exact Nat.max_le.mpr ⟨Deep.dep x, depth_map xs⟩
instance : Deep Int 0 := ⟨fun x => by
  show PyData.depth (.int x) ≤ 0
  rw [PyData.depth]
  exact Nat.le_refl _⟩
instance : Deep Bool 0 := ⟨fun x => by
  show PyData.depth (.bool x) ≤ 0
  rw [PyData.depth]
  exact Nat.le_refl _⟩
instance : Deep Str 0 := ⟨fun x => by
  show PyData.depth (.str x) ≤ 0
  rw [PyData.depth]
  exact Nat.le_refl _⟩
instance {α : Type} [Dat α] {n : Nat} [Deep α n] : Deep (List α) (n + 1) := ⟨fun xs => by
  show PyData.depth (.list (xs.map enc)) ≤ n + 1
  rw [PyData.depth]
  exact Nat.succ_le_succ (depth_map xs)⟩
instance {α : Type} [Dat α] {n : Nat} [Deep α n] : Deep (Tp α) (n + 1) := ⟨fun xs => by
  show PyData.depth (.tuple (List.map enc xs)) ≤ n + 1
  rw [PyData.depth]
  exact Nat.succ_le_succ (depth_map (α := α) xs)⟩
instance {α β : Type} [Dat α] [Dat β] {n m : Nat} [Deep α n] [Deep β m] : Deep (α × β) (max n m + 1) := ⟨fun x => by
  show PyData.depth (.tuple [enc x.1, enc x.2]) ≤ max n m + 1
  rw [PyData.depth, PyData.depthAll, PyData.depthAll, PyData.depthAll]
  have h1 := Deep.dep (n := n) x.1
  have h2 := Deep.dep (n := m) x.2
  omega⟩
end Z
set_option Elab.async false
set_option linter.all false
set_option maxRecDepth 100000
set_option maxHeartbeats 2000000
set_option autoImplicit false
namespace Z
open PySem L2
open Evl (Ex)
open Dat
section
variable {K : PySem.W.Frag} {α β γ δ : Type} [Dat α] [Dat β] [Dat γ] [Dat δ] {σ : L2.St} {G H H' : Hp} {te ta tb tc td : TE} {tt tu : TT} {i j : Int} {t u : TS} {D : Ends}
theorem dpall_get {vs : List V} {ds : List PyData} (h : DpAll K H vs ds) {j : Nat} {d : PyData} (hd : ds[j]? = some d) : ∃ v, vs[j]? = some v ∧ Dp K H v d := by
  induction vs generalizing ds j with
  | nil => cases h; cases hd
  | cons v vs ih =>
    cases h with
    | cons h1 h2 =>
      cases j with
      | zero => cases hd; exact ⟨v, rfl, h1⟩
      | succ j => exact ih h2 hd
theorem dpall_at {vs : List V} {ds : List PyData} (h : DpAll K H vs ds) {i : Int} {d : PyData} (hd : atI ds i = some d) : ∃ v, atI vs i = some v ∧ Dp K H v d := by
  unfold atI at hd ⊢
  rw [DpAll.len h]
  cases e : ixN ds.length i with
  | none => rw [e] at hd; cases hd
  | some j =>
    rw [e] at hd
    exact dpall_get h hd
/-- a list that stands tracked, new or held -/
def EM (K : PySem.W.Frag) (te : TE) (σ : L2.St) (H : Hp) (xs : List α) : Prop := ∀ H1, Ex H H1 → ∀ Q : VK, (∀ p H2, Ex H1 H2 → Own K H2 p xs → Q (.ref p) H2) → te σ H1 Q
theorem EL.em {xs : List α} (h : EL K te σ H xs) : EM K te σ H xs := fun H1 e Q q => h H1 e Q fun p H2 _ e2 o => q p H2 e2 o
theorem em_own {n : Nat} {p : Addr} {xs : List α} (h : σ[n]? = some (some (.ref p))) (r : Own K G p xs) (e : Ex G H) : EM K (tVar n) σ H xs := fun H1 e1 Q q => ⟨_, h, q p H1 (Ex.refl H1) (r.mono (e.trans e1))⟩
theorem el_add {xs ys : List α} (ha : EM K ta σ H xs) (hb : EM K tb σ H ys) (hl : xs.length + ys.length ≤ 100000) : EL K (tOp rCat ta tb) σ H (xs ++ ys) := fun H1 e Q q =>
  ha H1 e _ fun p H2 e2 o => hb H2 (e.trans e2) _ fun r H3 e3 o2 => by
    obtain ⟨vs, h1, r1⟩ := (o.mono e3).ex
    obtain ⟨ws, h2, r2⟩ := o2.ex
    refine ⟨p, r, vs, ws, rfl, rfl, h1, h2, Evl.sz_of (by rw [r1.len, r2.len]; exact hl), fun t ht => q t _ (fresh_back (e2.trans e3) ht) ((e2.trans e3).trans (Evl.Ex.new ht)) ⟨_, upd_same, ?_⟩⟩
    rw [cut_updn ht]
    exact (r1.mono cut_ex).append (r2.mono cut_ex)
/-- truth of a list -/
theorem et_truL {xs : List α} (h : ER K te σ H xs) : ET K (fun σ H Q => te σ H fun x H' => ∃ k, TruV K x H' k ∧ Q k H') σ H (!xs.isEmpty) := fun H1 e Q q => h H1 e _ fun v H2 e2 r => by
  obtain ⟨a, vs, rfl, s, r⟩ := Rep.list r
  refine ⟨_, .inl ⟨vs, s, rfl⟩, ?_⟩
  have : vs.isEmpty = xs.isEmpty := by
    have e := r.len
    cases vs <;> cases xs <;> first | rfl | simp at e
  rw [this]
  exact q H2 e2
theorem et_orU {a b : Bool} (h1 : ET K tt σ H a) (h2 : ET K tu σ H b) : ET K (tOr tt tu) σ H (a || b) := et_or h1 fun _ => h2
theorem et_andU {a b : Bool} (h1 : ET K tt σ H a) (h2 : ET K tu σ H b) : ET K (tAnd tt tu) σ H (a && b) := et_and h1 fun _ => h2
theorem er_orU {a b : Bool} (h1 : ER K ta σ H a) (h2 : ER K tb σ H b) : ER K (tOrV ta tb) σ H (a || b) := er_orV h1 fun _ => h2
theorem er_andU {a b : Bool} (h1 : ER K ta σ H a) (h2 : ER K tb σ H b) : ER K (tAndV ta tb) σ H (a && b) := er_andV h1 fun _ => h2
/-! ### with no word of the type: the shape of the datum says it -/
theorem dl_tyx {v : V} {ds : List PyData} (h : Dp K H v (.list ds)) : TyX K H v (.type "list") := by
  cases h with
  | lst s r =>
    rcases s with (s | ⟨o, s⟩) | ⟨o, its, n, s, c, _⟩
    · exact .base (.lst s)
    · exact .base (.frz s)
    · exact .kList s c
theorem dt_tyx {v : V} {ds : List PyData} (h : Dp K H v (.tuple ds)) : TyX K H v (.type "tuple") := by
  cases h with
  | tup s r =>
    rcases s with (s | ⟨o, s⟩) | ⟨o, its, n, s, c, _⟩
    · exact .base (.tup s)
    · exact .fTuple s
    · exact .kTuple s c
theorem ed_isi {d : PyData} {n m : String} {b : Bool} (ty : ∀ H v, Dp K H v d → TyX K H v (.type n)) (hk : kitB n m = some b) (ha : ED K ta σ H d) : ER K (tCB (rIsi K) (tCons ta (tCons (tC (.ty m)) tNil))) σ H b := fun H1 e Q q =>
  ha H1 e _ fun v H2 e2 r => ⟨v, .ty m, .type n, .type m, b, rfl, .ty m, ty H2 v r, kitOf hk, q _ H2 e2 (rep_bool _)⟩
theorem ed_isi_list {ds : List PyData} (ha : ED K ta σ H (.list ds)) : ER K (tCB (rIsi K) (tCons ta (tCons (tC (.ty "list")) tNil))) σ H true := ed_isi (fun _ _ => dl_tyx) (by decide +kernel) ha
theorem ed_isi_tup {ds : List PyData} (ha : ED K ta σ H (.tuple ds)) : ER K (tCB (rIsi K) (tCons ta (tCons (tC (.ty "tuple")) tNil))) σ H true := ed_isi (fun _ _ => dt_tyx) (by decide +kernel) ha
theorem ed_ixL {ds : List PyData} {k : Int} {d : PyData} (ha : ED K ta σ H (.list ds)) (hb : ER K tb σ H k) (hx : atI ds k = some d) : ED K (tOp (rIxL K) ta tb) σ H d := fun H1 e Q q =>
  ha H1 e _ fun v H2 e2 r => hb.evI H2 (e.trans e2) _ fun H3 e3 => by
    cases r with
    | lst s r =>
      obtain ⟨w, hw, rw'⟩ := dpall_at r hx
      exact ⟨_, _, k, w, rfl, rfl, Evl.ex_l e3 s, hw, q _ H3 (e2.trans e3) (dp_mono e3 _ _ rw')⟩
theorem ed_ixT {ds : List PyData} {k : Int} {d : PyData} (ha : ED K ta σ H (.tuple ds)) (hb : ER K tb σ H k) (hx : atI ds k = some d) : ED K (tOp (rIxT K) ta tb) σ H d := fun H1 e Q q =>
  ha H1 e _ fun v H2 e2 r => hb.evI H2 (e.trans e2) _ fun H3 e3 => by
    cases r with
    | tup s r =>
      obtain ⟨w, hw, rw'⟩ := dpall_at r hx
      exact ⟨_, _, k, w, rfl, rfl, Evl.ex_t e3 s, hw, q _ H3 (e2.trans e3) (dp_mono e3 _ _ rw')⟩
theorem atI_mapE {α : Type} {xs : List α} {f : α → PyData} {i : Int} {x : α} {d : PyData} (h : atI xs i = some x) (e : f x = d) : atI (xs.map f) i = some d := by
  unfold atI at h ⊢
  rw [List.length_map]
  cases q : ixN xs.length i with
  | none => rw [q] at h; cases h
  | some j =>
    rw [q] at h
    show (xs.map f)[j]? = some d
    have h : xs[j]? = some x := h
    rw [List.getElem?_map, h, ← e]
    rfl
/-! ### tests whose answer is known -/
theorem q_ifF {b : Bool} (h : ET K tt σ H b) (hb : b = false) (k : ∀ H', Ex H H' → u D σ H') : tSeq (tIfS tt t tNext) u D σ H := q_if h (fun z => absurd z (by rw [hb]; decide)) fun _ => k
theorem q_ifT {b : Bool} (h : ET K tt σ H b) (hb : b = true) (k : ∀ H', Ex H H' → t { D with nx := u D } σ H') : tSeq (tIfS tt t tNext) u D σ H := q_if h (fun _ => k) fun z => absurd z (by rw [hb]; decide)
theorem s_ifF {b : Bool} (h : ET K tt σ H b) (hb : b = false) (k : ∀ H', Ex H H' → u D σ H') : tIfS tt t u D σ H := s_if h (fun z => absurd z (by rw [hb]; decide)) fun _ => k
theorem s_ifT {b : Bool} (h : ET K tt σ H b) (hb : b = true) (k : ∀ H', Ex H H' → t D σ H') : tIfS tt t u D σ H := s_if h (fun _ => k) fun z => absurd z (by rw [hb]; decide)
theorem atI_ofN {xs : List α} {k : Nat} {x : α} (h : xs[k]? = some x) : atI xs (k : Int) = some x := by
  have hl : k < xs.length := (List.getElem?_eq_some_iff.mp h).1
  unfold atI ixN
  rw [if_pos (Int.natCast_nonneg k), if_pos (by omega)]
  exact h
theorem atI_ex {α : Type} {xs : List α} {k : Nat} (h : k < xs.length) : ∃ x, x ∈ xs ∧ xs[k]? = some x ∧ atI xs (k : Int) = some x := by
  refine ⟨xs[k], List.getElem_mem h, List.getElem?_eq_getElem h, ?_⟩
  unfold atI ixN
  rw [if_pos (Int.natCast_nonneg k), if_pos (by omega)]
  exact List.getElem?_eq_getElem h
theorem atI_last {xs : List α} (h : 0 < xs.length) : ∃ x, atI xs (-1) = some x ∧ xs.getLast? = some x := by
  refine ⟨xs[xs.length - 1]'(by omega), ?_, ?_⟩
  · unfold atI ixN
    rw [if_neg (by decide), if_pos (by omega)]
    rw [show (-1 + (xs.length : Int)).toNat = xs.length - 1 by omega]
    exact List.getElem?_eq_getElem (by omega)
  · rw [List.getLast?_eq_getElem?]
    exact List.getElem?_eq_getElem (by omega)
/-! ### fields -/
theorem ev_fld {a C dx : Addr} {fs : List (Str × V)} {f : Str} {v : V} (h : EV K te σ H (.ref a)) (ha : G a = some (.ins C dx fs)) (e : Ex G H) (cl : Cls K C) (na : NoAttr K C f) (hl : fs.lookup f = some v) : EV K (tFld K te f) σ H v := fun H1 e1 Q q =>
  h H1 e1 _ fun H2 e2 => ⟨a, C, dx, fs, v, rfl, (e.trans (e1.trans e2)) _ _ ha, cl, na, hl, q H2 e2⟩
theorem em_fld {a C dx l : Addr} {fs : List (Str × V)} {f : Str} {xs : List α} (h : EV K te σ H (.ref a)) (ha : G a = some (.ins C dx fs)) (e : Ex G H) (cl : Cls K C) (na : NoAttr K C f) (hl : fs.lookup f = some (.ref l)) (o : Own K G l xs) : EM K (tFld K te f) σ H xs := fun H1 e1 Q q =>
  ev_fld h ha e cl na hl H1 e1 _ fun H2 e2 => q l H2 e2 (o.mono (e.trans (e1.trans e2)))
theorem EM.er {xs : List α} (h : EM K te σ H xs) : ER K te σ H xs := fun H1 e Q q => h H1 e Q fun p H2 e2 o => q _ H2 e2 o.rep
/-! ### for i, x in enumerate(xs) -/
theorem s_enum {xs : List α} {m n : Nat} {tb : TS} (h : ER K te σ H xs) (k : ∀ a vs H1, Ex H H1 → SqL K H1 a vs → Reps K H1 vs xs → ∃ (G : Hp) (J : Nat → L2.St → Hp → Prop), Ex G H1 ∧ SqL K G a vs ∧ Reps K G vs xs ∧ J 0 σ H1 ∧
      (∀ i x w σ' H' H'', xs[i]? = some x → Ex G H' → Ex H' H'' → Rep K G w x → J i σ' H' → tb { D with nx := fun σ3 H3 => Ex G H3 ∧ J (i + 1) σ3 H3, ct := fun σ3 H3 => Ex G H3 ∧ J (i + 1) σ3 H3, bk := D.nx } ((σ'.set m (some (.int (i : Nat)))).set n (some w)) H'') ∧
      (∀ σ' H', Ex G H' → J xs.length σ' H' → D.nx σ' H')) : tFor (iEnum K (tCons te tNil)) (gTup K 2 (gCons (gName m) (gCons (gName n) gNil))) tb D σ H := h H (Ex.refl H) _ fun v H1 e1 r => by
  obtain ⟨a, vs, rfl, s, r⟩ := Rep.list r
  obtain ⟨G, J, eG, sG, rG, j0, js, jd⟩ := k a vs H1 e1 s r
  have hl := rG.len
  refine ⟨a, vs, rfl, s, fun i k' σ' H' => k' = xs.length - i ∧ i ≤ xs.length ∧ Ex G H' ∧ J i σ' H', ⟨_, rfl, Nat.zero_le _, eG, j0⟩, ?_⟩
  rintro i k' σ' H' ⟨rfl, hi, eH, j⟩
  have q := Evl.ex_l eH sG
  by_cases hlt : i < xs.length
  · refine .inr ⟨⟨vs, vs[i]'(by omega), q, by simp [hl, hlt]⟩, fun σ3 H3 => Ex G H3 ∧ J (i + 1) σ3 H3, fun σ3 H3 z => ⟨_, by omega, rfl, hlt, z.1, z.2⟩, ?_⟩
    rintro y H2 ⟨T, x, rfl, hT, rfl, hx⟩
    obtain ⟨z, hz, rz⟩ := rG.got (hx vs q)
    have eT : Ex H' (upd H' T (.tup [.int (i : Nat), x])) := Evl.Ex.new hT
    exact ⟨T, _, rfl, SqT.of upd_same, rfl, _, _, rfl, _, _, rfl, rfl, js i z x σ' H' _ hz eH eT rz j⟩
  · have e : i = xs.length := by omega
    subst e
    exact .inl ⟨⟨vs, q, by omega⟩, jd σ' H' eH j⟩
/-! ### a while -/
theorem s_while (J : L2.St → Hp → Prop) (μ : L2.St → Hp → Nat) {tb : TS} (j0 : J σ H) (js : ∀ σ' H', J σ' H' → ∃ b, ET K tt σ' H' b ∧ (b = true → ∀ H2, Ex H' H2 → tb { D with nx := fun σ3 H3 => J σ3 H3 ∧ μ σ3 H3 < μ σ' H', ct := fun σ3 H3 => J σ3 H3 ∧ μ σ3 H3 < μ σ' H', bk := D.nx } σ' H2) ∧ (b = false → ∀ H2, Ex H' H2 → D.nx σ' H2)) :
    tWhile tt tb D σ H := by
  refine ⟨fun m σ' H' => m = μ σ' H' ∧ J σ' H', ⟨_, rfl, j0⟩, ?_⟩
  rintro m σ' H' ⟨rfl, j⟩
  obtain ⟨b, hb, h1, h2⟩ := js σ' H' j
  refine hb H' (Ex.refl H') _ fun H2 e2 => ?_
  cases b with
  | true =>
    rw [if_pos rfl]
    exact ⟨fun σ3 H3 => J σ3 H3 ∧ μ σ3 H3 < μ σ' H', fun σ3 H3 z => ⟨_, z.2, rfl, z.1⟩, h1 rfl H2 e2⟩
  | false =>
    rw [if_neg Bool.false_ne_true]
    exact h2 rfl H2 e2
/-! ### stores -/
/-- xs[i] = e, xs a name -/
theorem s_put {n : Nat} {p : Addr} {xs : List α} {x : α} {k : Int} {j : Nat} (hσ : σ[n]? = some (some (.ref p))) (ho : Own K H p xs) (h : ER K te σ H x) [Flat α] (hi : ∀ H1, Ex H H1 → EV K tb σ H1 (.int k)) (hj : ixN xs.length k = some j)
    (c : ∀ H', (∀ G, Ex G H → G p = none → Ex G H') → Tups H H' → Own K H' p (xs.set j x) → D.nx σ H') : tAsg te (gSub (tVar n) tb rSetL) D σ H := h H (Ex.refl H) _ fun v H1 e1 r => ⟨_, hσ, hi H1 e1 H1 (Ex.refl H1) _ fun H2 e2 => by
  obtain ⟨vs, h1, r1⟩ := (ho.mono (e1.trans e2)).ex
  refine ⟨p, vs, k, j, rfl, rfl, h1, by rw [r1.len]; exact hj, c _ (fun G eG hG => ex_mut (eG.trans (e1.trans e2)) hG) ((Tups.ex (e1.trans e2)).trans (Tups.upd h1)) ⟨_, upd_same, ?_⟩⟩
  rw [cut_upd]
  exact r1.set j ((r.mono e2).imm (Tups.cut h1))⟩
theorem q_put {n : Nat} {p : Addr} {xs : List α} {x : α} {k : Int} {j : Nat} (hσ : σ[n]? = some (some (.ref p))) (ho : Own K H p xs) (h : ER K te σ H x) [Flat α] (hi : ∀ H1, Ex H H1 → EV K tb σ H1 (.int k)) (hj : ixN xs.length k = some j)
    (c : ∀ H', (∀ G, Ex G H → G p = none → Ex G H') → Tups H H' → Own K H' p (xs.set j x) → u D σ H') : tSeq (tAsg te (gSub (tVar n) tb rSetL)) u D σ H := s_put (D := { D with nx := u D }) hσ ho h hi hj c
theorem ixN_m1 {n : Nat} (h : 0 < n) : ixN n (-1) = some (n - 1) := by
  unfold ixN
  rw [if_neg (by decide), if_pos (by omega)]
  congr 1
  omega
theorem ixN_nn {n : Nat} {k : Int} (h0 : 0 ≤ k) (h1 : k < n) : ixN n k = some k.toNat := by
  unfold ixN
  rw [if_pos h0, if_pos h1]
/-- what an owned list keeps through a change at another one -/
theorem Own.other {p q : Addr} {xs : List α} {o : HO} [Flat α] {ws : List V} (h : Own K H p xs) (hq : H q = some (.lst ws)) (ne : q ≠ p) : Own K (upd H q o) p xs := by
  obtain ⟨vs, h1, r1⟩ := h.ex
  refine ⟨vs, by rw [upd_ne (Ne.symm ne)]; exact h1, ?_⟩
  have hc : cut H p q = some (.lst ws) := by rw [cut_ne ne]; exact hq
  rw [cut_upd_ne ne]
  exact r1.imm (Tups.upd hc)
end
end Z
set_option Elab.async false
set_option linter.all false
set_option maxRecDepth 100000
set_option maxHeartbeats 2000000
set_option autoImplicit false
namespace Z
open PySem L2
open Evl (Ex)
open Dat
section
variable {K : PySem.W.Frag} {α β : Type} [Dat α] [Dat β] {σ : L2.St} {G H : Hp} {te : TE} {tt : TT} {t u : TS} {D : Ends} {i : Nat}
theorem q_for {xs : List α} {g : TG} {tb : TS} (h : ER K te σ H xs) (k : ∀ a vs H1, Ex H H1 → SqL K H1 a vs → Reps K H1 vs xs → ∃ (G : Hp) (J : Nat → L2.St → Hp → Prop), Ex G H1 ∧ SqL K G a vs ∧ Reps K G vs xs ∧ J 0 σ H1 ∧
      (∀ i x v σ' H', xs[i]? = some x → Ex G H' → Rep K G v x → J i σ' H' → g v σ' H' fun σ2 H2 => tb { D with nx := fun σ3 H3 => Ex G H3 ∧ J (i + 1) σ3 H3, ct := fun σ3 H3 => Ex G H3 ∧ J (i + 1) σ3 H3, bk := u D } σ2 H2) ∧
      (∀ σ' H', Ex G H' → J xs.length σ' H' → u D σ' H')) : tSeq (tFor (iList K te) g tb) u D σ H := s_for (D := { D with nx := u D }) h k
theorem q_forV {xs : List α} {n : Nat} {v : V} {g : TG} {tb : TS} (hσ : σ[n]? = some (some v)) (r : Rep K G v xs) (e : Ex G H) (J : Nat → L2.St → Hp → Prop) (j0 : J 0 σ H)
    (js : ∀ i x w σ' H', xs[i]? = some x → Ex G H' → Rep K G w x → J i σ' H' → g w σ' H' fun σ2 H2 => tb { D with nx := fun σ3 H3 => Ex G H3 ∧ J (i + 1) σ3 H3, ct := fun σ3 H3 => Ex G H3 ∧ J (i + 1) σ3 H3, bk := u D } σ2 H2)
    (jd : ∀ σ' H', Ex G H' → J xs.length σ' H' → u D σ' H') : tSeq (tFor (iList K (tVar n)) g tb) u D σ H := s_forV (D := { D with nx := u D }) hσ r e J j0 js jd
theorem q_forT {xs : Tp α} {g : TG} {tb : TS} (h : ER K te σ H xs) (k : ∀ a vs H1, Ex H H1 → SqT K H1 a vs → Reps K H1 vs (α := α) xs → ∃ (G : Hp) (J : Nat → L2.St → Hp → Prop), Ex G H1 ∧ SqT K G a vs ∧ Reps K G vs (α := α) xs ∧ J 0 σ H1 ∧
      (∀ i x v σ' H', (show List α from xs)[i]? = some x → Ex G H' → Rep K G v x → J i σ' H' → g v σ' H' fun σ2 H2 => tb { D with nx := fun σ3 H3 => Ex G H3 ∧ J (i + 1) σ3 H3, ct := fun σ3 H3 => Ex G H3 ∧ J (i + 1) σ3 H3, bk := u D } σ2 H2) ∧
      (∀ σ' H', Ex G H' → J (List.length xs) σ' H' → u D σ' H')) : tSeq (tFor (iTup K te) g tb) u D σ H := s_forT (D := { D with nx := u D }) h k
theorem q_rng {n : Int} {ta : TE} {g : TG} {tb : TS} (h : ER K ta σ H n) (hn : n < 2 ^ 62) (hn0 : -(2 ^ 62) ≤ n) (k : ∀ H1, Ex H H1 → ∃ (G : Hp) (J : Nat → L2.St → Hp → Prop), Ex G H1 ∧ J 0 σ H1 ∧
      (∀ (i : Nat) σ' H', i < n.toNat → Ex G H' → J i σ' H' → g (.int (i : Int)) σ' H' fun σ2 H2 => tb { D with nx := fun σ3 H3 => Ex G H3 ∧ J (i + 1) σ3 H3, ct := fun σ3 H3 => Ex G H3 ∧ J (i + 1) σ3 H3, bk := u D } σ2 H2) ∧
      (∀ σ' H', Ex G H' → J n.toNat σ' H' → u D σ' H')) : tSeq (tFor (iRng1 (tCons ta tNil)) g tb) u D σ H := s_rng (D := { D with nx := u D }) h hn hn0 k
theorem q_rng2 {lo hi : Int} {ta tc : TE} {g : TG} {tb : TS} (h : ER K ta σ H lo) (h' : ER K tc σ H hi) (hb : -(2 ^ 62) ≤ lo ∧ lo < 2 ^ 62 ∧ -(2 ^ 62) ≤ hi ∧ hi < 2 ^ 62) (k : ∀ H1, Ex H H1 → ∃ (G : Hp) (J : Nat → L2.St → Hp → Prop), Ex G H1 ∧ J 0 σ H1 ∧
      (∀ (i : Nat) σ' H', i < (hi - lo).toNat → Ex G H' → J i σ' H' → g (.int (lo + (i : Int))) σ' H' fun σ2 H2 => tb { D with nx := fun σ3 H3 => Ex G H3 ∧ J (i + 1) σ3 H3, ct := fun σ3 H3 => Ex G H3 ∧ J (i + 1) σ3 H3, bk := u D } σ2 H2) ∧
      (∀ σ' H', Ex G H' → J (hi - lo).toNat σ' H' → u D σ' H')) : tSeq (tFor (iRng2 (tCons ta (tCons tc tNil))) g tb) u D σ H := s_rng2 (D := { D with nx := u D }) h h' hb k
theorem q_enum {xs : List α} {m n : Nat} {tb : TS} (h : ER K te σ H xs) (k : ∀ a vs H1, Ex H H1 → SqL K H1 a vs → Reps K H1 vs xs → ∃ (G : Hp) (J : Nat → L2.St → Hp → Prop), Ex G H1 ∧ SqL K G a vs ∧ Reps K G vs xs ∧ J 0 σ H1 ∧
      (∀ i x w σ' H' H'', xs[i]? = some x → Ex G H' → Ex H' H'' → Rep K G w x → J i σ' H' → tb { D with nx := fun σ3 H3 => Ex G H3 ∧ J (i + 1) σ3 H3, ct := fun σ3 H3 => Ex G H3 ∧ J (i + 1) σ3 H3, bk := u D } ((σ'.set m (some (.int (i : Nat)))).set n (some w)) H'') ∧
      (∀ σ' H', Ex G H' → J xs.length σ' H' → u D σ' H')) : tSeq (tFor (iEnum K (tCons te tNil)) (gTup K 2 (gCons (gName m) (gCons (gName n) gNil))) tb) u D σ H := s_enum (D := { D with nx := u D }) h k
theorem q_while (J : L2.St → Hp → Prop) (μ : L2.St → Hp → Nat) {tb : TS} (j0 : J σ H) (js : ∀ σ' H', J σ' H' → ∃ b, ET K tt σ' H' b ∧ (b = true → ∀ H2, Ex H' H2 → tb { D with nx := fun σ3 H3 => J σ3 H3 ∧ μ σ3 H3 < μ σ' H', ct := fun σ3 H3 => J σ3 H3 ∧ μ σ3 H3 < μ σ' H', bk := u D } σ' H2) ∧ (b = false → ∀ H2, Ex H' H2 → u D σ' H2)) : tSeq (tWhile tt tb) u D σ H := s_while (D := { D with nx := u D }) J μ j0 js
/-- an if whose ways meet again in J -/
theorem q_ifJ {b : Bool} {tt : TT} {t u' u : TS} (J : L2.St → Hp → Prop) (k : ∀ σ' H', J σ' H' → u D σ' H') (h : ET K tt σ H b) (k1 : (∀ σ' H', J σ' H' → u D σ' H') → b = true → ∀ H', Ex H H' → t { D with nx := u D } σ H')
    (k2 : (∀ σ' H', J σ' H' → u D σ' H') → b = false → ∀ H', Ex H H' → u' { D with nx := u D } σ H') : tSeq (tIfS tt t u') u D σ H := s_if (D := { D with nx := u D }) h (k1 k) (k2 k)
theorem Own.cut {p q : Addr} {xs : List α} [Flat α] {ws : List V} (h : Own K H p xs) (hq : H q = some (.lst ws)) (ne : q ≠ p) : Own K (Z.cut H q) p xs := by
  obtain ⟨vs, h1, r1⟩ := h.ex
  refine ⟨vs, by rw [cut_ne (Ne.symm ne)]; exact h1, r1.imm ?_⟩
  have hc : Z.cut H p q = some (.lst ws) := by rw [cut_ne ne]; exact hq
  have e : Z.cut (Z.cut H p) q = Z.cut (Z.cut H q) p := by
    funext b
    unfold Z.cut
    split <;> split <;> rfl
  exact e ▸ Tups.cut hc
theorem Own.at {p : Addr} {xs : List α} (h : Own K H p xs) : ∃ vs, H p = some (.lst vs) := by
  obtain ⟨vs, h1, _⟩ := h.ex
  exact ⟨vs, h1⟩
end
end Z
set_option Elab.async false
set_option linter.all false
set_option maxRecDepth 100000
set_option maxHeartbeats 4000000
set_option autoImplicit false
/-! Z: defs of a class that say super().__init__(..): their bodies at their own code. -/
namespace Z
open PySem L2
open PySem.W (ksEnv ksFn ks_superIn kxs_mw)
/-- the context of such a def's body -/
def cxS (CX : CXT) (P : Program) (w : World) (K : PySem.W.Frag) (mg : Str → Option Value) (base : Heap) (N : List Str) (qual : Str) (scope : Scope) (f : Addr) (cd : Value) (cc : Addr) (A : Around) (outer : List Env) (s : Shared) (H : Hp) (E : XK) : Cx where
  prog := P
  w := w
  K := K
  mg := mg
  base := base
  A := A.deeper (ksEnv qual scope s.heap.objs.size f cd cc)
  N := N
  s_0 := s
  H_0 := H
  env := ksEnv qual scope s.heap.objs.size f cd cc
  outer := outer
  stack := ksEnv qual scope s.heap.objs.size f cd cc :: outer
  ex := []
  calm := true
  fn := fun _ => false
  pn := []
  xe := fun e s' => wpAny (model P w) (A.deeper (ksEnv qual scope s.heap.objs.size f cd cc)) (leaving (ksEnv qual scope s.heap.objs.size f cd cc) e) (fun _ s'' => CX outer H s E e s'') (fun e' s'' => CX outer H s E e' s'') s'
/-- a block at its own code -/
structure PSsA (X : Cx) (body sts : List Stmt) (t : TS) : Prop where
  run : ∀ (pins : List (Addr × Obj)) (s : Shared) (σ : L2.St) (H : Hp) (D : Ends), Inv X pins σ H s → t D σ H → PySem.wpAt (model X.prog X.w) X.A (.func body X.env) (execs sts X.env) (SP X pins D) X.xe s
theorem pssa_of {X : Cx} {body sts : List Stmt} {t : TS} (h : PSs X sts t) : PSsA X body sts t := ⟨fun pins s σ H D I q => PySem.wpAt_of_wpAny (h.run pins s σ H D I q)⟩
theorem pssa_cons {X : Cx} {body rest : List Stmt} {st : Stmt} {t u : TS} (h1 : PS X st t) (h2 : PSsA X body rest u) : PSsA X body (st :: rest) (tSeq t u) := by
  refine ⟨fun pins s σ H D I h => ?_⟩
  refine PySem.ks_wpAt_execs_cons (PySem.wpAt_of_wpAny (thn (h1.run pins s σ H { D with nx := u D } I h) fun fl s1 q => ?_))
  cases fl with
  | next =>
    obtain ⟨σ', H', I', q⟩ := q
    exact h2.run pins s1 σ' H' D I' q
  | ret v => exact q
  | brk => exact q
  | cont => exact q
/-- names of such a def: locals alone, but the class -/
structure FnScopeS (N P : List Str) (sc : Scope) : Prop where
  kind : sc.kind = .function
  co : sc.isCoroutine = false
  gen : sc.isGenerator = false
  nd : N.Nodup
  pre : N.take P.length = P
  par : ∀ x ∈ P, sc.names.lookup x = some .local
  nocell : ∀ y ∈ sc.names, y.2 ≠ .cell
  free : ∀ y ∈ sc.names, y.2 = .free → y.1 = ("__class__" : Str)
  cls : sc.names.lookup ("__class__" : Str) = some .free
  sup : sc.names.lookup ("super" : Str) = some .globalImplicit
theorem zip_get {α β : Type} : ∀ {xs : List α} {ys : List β} {i : Nat} {x : α} {y : β}, xs[i]? = some x → ys[i]? = some y → (xs.zip ys)[i]? = some (x, y)
  | [], _, _, _, _, h, _ => by simp at h
  | _ :: _, [], _, _, _, _, h => by simp at h
  | a :: xs, b :: ys, 0, x, y, h, k => by
    simp at h k
    subst h k
    rfl
  | a :: xs, b :: ys, i + 1, x, y, h, k => by
    simpa using zip_get (xs := xs) (ys := ys) (i := i) (by simpa using h) (by simpa using k)
theorem zip_rev_lookup {ps : List Str} (nd : ps.Nodup) : ∀ {us : List Value} {i : Nat} {y : Str} {u : Value}, ps[i]? = some y → us[i]? = some u → (ps.zip us).reverse.lookup y = some u := by
  induction ps with
  | nil => intro us i y u h; simp at h
  | cons p ps ih =>
    intro us i y u h k
    cases us with
    | nil => simp at k
    | cons w us =>
      have nd' := List.nodup_cons.mp nd
      rw [List.zip_cons_cons, List.reverse_cons]
      cases i with
      | zero =>
        simp at h k
        subst h k
        have no : (ps.zip us).reverse.lookup p = none := by
          rw [List.lookup_eq_none_iff]
          intro q hq
          have hm : q ∈ ps.zip us := List.mem_reverse.mp hq
          have := (List.of_mem_zip (show (q.1, q.2) ∈ ps.zip us from hm)).1
          simpa using fun e : p = q.1 => nd'.1 (e ▸ this)
        rw [List.lookup_append, no]
        simp [List.lookup]
      | succ i =>
        have := ih nd'.2 (us := us) (i := i) (y := y) (u := u) (by simpa using h) (by simpa using k)
        rw [List.lookup_append, this]
        rfl
theorem inv_startS {CX : CXT} {P : Program} {w : World} {K : PySem.W.Frag} {mg : Str → Option Value} {base : Heap} {N ps : List Str} {qual : Str} {scope : Scope} {f cc D : Addr} {cd : Value} {A : Around} {outer : List Env} {s : Shared} {H : Hp} {E : XK} {us : List Value} {vs : List V} {h1 : Heap} {tk : Nat}
    (S : FnScopeS N ps scope) (hd : A.handled = none) (e0 : Env0 P w K mg base A outer s H) (hl : vs.length = ps.length) (r : Vals vs us) (hcc : ∃ cl cld csl, K.lookup cc = some ⟨cl, cld, .cell (some (.ref D)), csl⟩)
    (hns : h1.Ns s.heap.objs.size (fun x => (ps.zip us).reverse.lookup x)) (hk : ∀ b o, s.heap.get? b = some o → h1.get? b = some o) :
    Inv (cxS CX P w K mg base N qual scope f cd cc A outer s H E) [] (L2.start N vs) H { s with heap := h1, toks := tk } := by
  have hpl : ps.length ≤ N.length := by have := congrArg List.length S.pre; rw [List.length_take] at this; omega
  have noA : ∀ b : Addr, b ∉ (cxS CX P w K mg base N qual scope f cd cc A outer s H E).ex := fun b z => absurd (show b ∈ ([] : List Addr) from z) (by simp)
  obtain ⟨cl, cld, csl, hc⟩ := hcc
  have hcb := e0.mod.kin _ _ hc
  have hcs := (e0.bs _ _ hcb).1
  have one : ∀ x c, (cxS CX P w K mg base N qual scope f cd cc A outer s H E).env.cells.lookup x = some c → x = ("__class__" : Str) ∧ c = cc := fun x c h => by
    have h' : List.lookup x [(("__class__" : Str), cc)] = some c := h
    simp only [List.lookup] at h'
    split at h'
    · rename_i q
      cases h'
      exact ⟨by simpa using q, rfl⟩
    · cases h'
  refine ⟨⟨e0.mod, S.kind, rfl, rfl, Nat.le_refl _, fun x y c a b => (one x c a).1.trans (one y c b).1.symm, fun y hy => ?_, fun x c z _ => ?_, fun _ => hd, Around.frames_deeper e0.frames, .inr ⟨rfl, rfl⟩, fun b z => absurd z (noA b), e0.bs, e0.bsz, fun b _ _ => noA b, fun b z => absurd z (noA b), e0.funs, e0.frf⟩,
    rfl, e0.bare, Un.kept hk, ⟨_, hns, fun i y v h1 h2 h3 => ?_⟩, fun y c h => ?_, e0.hok.fresh (Nat.le_refl _), fun y c h => ?_, fun p hp => absurd (show p ∈ ([] : List (Addr × Obj)) from hp) (by simp), e0.hok.kept hk, ?_⟩
  · refine ⟨cc, ?_⟩
    have hy : scope.names.lookup y = some .cell ∨ scope.names.lookup y = some .free := hy
    have : y = ("__class__" : Str) := by
      rcases hy with hy | hy
      · exact absurd rfl (S.nocell _ (PySem.mem_of_lookup hy))
      · exact S.free _ (PySem.mem_of_lookup hy) rfl
    rw [this]
    show List.lookup ("__class__" : Str) [(("__class__" : Str), cc)] = some cc
    simp [List.lookup]
  · exact absurd (show (false : Bool) = true from z) Bool.false_ne_true
  · have hi : i < vs.length := by
      unfold L2.start at h2
      by_cases hi : i < vs.length
      · exact hi
      · rw [List.getElem?_append_right (by simpa using hi)] at h2
        rw [List.getElem?_replicate] at h2
        split at h2 <;> cases h2
    have ha : vs[i]? = some v := by
      unfold L2.start at h2
      rw [List.getElem?_append_left (by simpa using hi), List.getElem?_map] at h2
      cases e : vs[i]? with
      | none => rw [e] at h2; cases h2
      | some a => rw [e] at h2; cases h2; rfl
    obtain ⟨u, hu, rv⟩ := r.get ha
    have hp : ps[i]? = some y := by
      rw [← S.pre, List.getElem?_take_of_lt (by omega)]; exact h1
    have ndP : ps.Nodup := by rw [← S.pre]; exact S.nd.sublist (List.take_sublist _ _)
    exact ⟨u, rv, .inl ⟨S.par y (List.mem_of_getElem? hp), zip_rev_lookup ndP hp hu⟩⟩
  · obtain ⟨_, rfl⟩ := one y c h
    exact ⟨_, _, hk _ _ hcs, rfl⟩
  · obtain ⟨_, rfl⟩ := one y c h
    exact (e0.bs _ _ hcb).2
  · unfold L2.start
    show _ = N.length
    rw [List.length_append, List.length_map, List.length_replicate]
    omega
/-- what the written part says of a def that closes over its class -/
structure SupF (P : Program) (K : PySem.W.Frag) (mg : Str → Option Value) (x qual : Str) (st : Stmt) (f cda cc D : Addr) (fd : FuncData) : Prop where
  ex : ∃ (oc : Value) (od : Option Addr) (kV doc pm : Value) (an : Option Addr) (ct : Value) (osl : Array (Option Value)),
    fd = ksFn x qual (defArgs st) (defBody st) (defScope st) .none kV doc pm an (.ref cda) ct cc ∧ K.lookup f = some ⟨oc, od, .func fd, osl⟩ ∧ PySem.W.codeIn K (.ref cda) qual = true
  code : ∃ ccl cdd vs ccs file tf, K.lookup cda = some ⟨ccl, cdd, .fields vs, ccs⟩ ∧ vs[2]? = some (.str file tf) ∧ (P.main.file == file) = true
  cell : ∃ cl cld csl, K.lookup cc = some ⟨cl, cld, .cell (some (.ref D)), csl⟩
  cls : (PySem.W.clsIn K D).isSome = true
  nosup : mg ("super" : Str) = none
  htop : (P.main.scope.names.lookup ("super" : Str)).isSome = false
  par : ∃ ar, ((defArgs st).posonlyargs ++ (defArgs st).args).head? = some ar ∧ ar.arg = ("self" : Str)
  kp : PySem.W.keepIn K (.ref f) = true
theorem SupF.ok {P : Program} {w : World} {K : PySem.W.Frag} {mg : Str → Option Value} {base : Heap} {CX : CXT} {k : Nat} {x qual : Str} {st : Stmt} {f cda cc D : Addr} {fd : FuncData} {N ps : List Str} {sp : Sp}
    (F : SupF P K mg x qual st f cda cc D fd) (S : FnScopeS N ps (defScope st)) (len : ∀ vs H Q E, sp vs H Q E → vs.length = ps.length)
    (hbody : ∀ (A : Around) (outer : List Env) (s : Shared) (H : Hp) (vs : List V) (Q : VK) (E : XK), Room k (A.deeper (ksEnv qual (defScope st) s.heap.objs.size f (.ref cda) cc)) → sp vs H Q E →
      ∃ t, PSsA (cxS CX P w K mg base N qual (defScope st) f (.ref cda) cc A outer s H E) (defBody st) (defBody st) t ∧ t { nx := fun _ H' => Q .non H', rt := Q } (L2.start N vs) H) :
    FnOk P w K mg base CX (k + 1) f fd ps sp := by
  obtain ⟨oc, od, kV, doc, pm, an, ct, osl, rfl, lk, hcd⟩ := F.ex
  refine ⟨len, fun A outer s H args us vs Q E hr e0 hb r hsp => ?_⟩
  have hl := len _ _ _ _ hsp
  have KX : K.In s.heap := e0.mod.kin.keeps fun b o e => (e0.bs b o e).1
  have lim : s.heap.NoLimit := e0.mod.nolimit.keeps fun b o e => (e0.bs b o e).1
  refine PySem.ks_codeAny_call_defAt hr.depth (KX _ _ lk) rfl lim (PySem.W.codeRec_of KX hcd) rfl hb S.nocell (fun y hy => S.par y.1 (List.of_mem_zip (show (y.1, y.2) ∈ ps.zip us from hy)).1) (fun h₁ hns hk => ?_) S.co S.gen S.kind
  obtain ⟨t, ht, hq⟩ := hbody A outer s H vs Q E (hr.deeper _) hsp
  have I := inv_startS (CX := CX) (w := w) (f := f) (cd := .ref cda) (qual := qual) (E := E) (tk := s.toks + (ps.zip us).length) S hr.hd e0 hl r F.cell hns hk
  refine PySem.wpAt_mono (ht.run [] _ (L2.start N vs) H _ I hq) (fun fl s' hs => ?_) fun e s' hs => hs
  have fin : ∀ {σ' : L2.St} {H' : Hp} {v : V} {u : Value}, Inv (cxS CX P w K mg base N qual (defScope st) f (.ref cda) cc A outer s H E) [] σ' H' s' → RelV v u → Q v H' → CE outer P w H s Q u s' :=
    fun {σ' H' v u} J rv q => ⟨v, H', J.os, J.bare, J.base, J.hok, rv, q⟩
  cases fl with
  | ret u =>
    obtain ⟨v, σ', H', J, rv, q⟩ := hs
    exact fin J rv q
  | next =>
    obtain ⟨σ', H', J, q⟩ := hs
    exact fin (v := V.non) (u := Value.none) J rfl q
  | brk =>
    obtain ⟨_, _, _, q⟩ := hs
    exact False.elim q
  | cont =>
    obtain ⟨_, _, _, q⟩ := hs
    exact False.elim q
/-! ### super() -/
section
variable {CX : CXT} {P : Program} {w : World} {K : PySem.W.Frag} {mg : Str → Option Value} {base : Heap} {N ps : List Str} {x qual : Str} {st : Stmt} {f cda cc D : Addr} {fd : FuncData} {A : Around} {outer : List Env} {s₀ : Shared} {H₀ : Hp} {E₀ : XK}
abbrev superO (D x C : Addr) : Obj := PySem.W.ks_superObj D x C
/-- super() made, self an instance of the class at C -/
theorem sup_node (F : SupF P K mg x qual st f cda cc D fd) (S : FnScopeS N ps (defScope st)) (hself : N[0]? = some ("self" : Str)) (hsl : (defScope st).names.lookup ("self" : Str) = some .local)
    {pins : List (Addr × Obj)} {σ : L2.St} {H : Hp} {s : Shared} {a C : Addr} {p0 p1 : Pos} {attr : Str} {whole : Sem Value} {Q : Value → Shared → Prop} {E : Value → Shared → Prop} {ox : Obj} {odx : Option Obj}
    (I : Inv (cxS CX P w K mg base N qual (defScope st) f (.ref cda) cc A outer s₀ H₀ E₀) pins σ H s) (hσ : σ[0]? = some (some (.ref a))) (hat : (attr == ("__class__" : Str)) = false)
    (J : PySem.W.InstAt s.heap a ox C odx) (hsub : PySem.W.mroIn K C (.ref D) = some true)
    (h : ∀ so s', s'.heap.get? so = some (superO D a C) → (∀ b o, s.heap.get? b = some o → s'.heap.get? b = some o) → Inv (cxS CX P w K mg base N qual (defScope st) f (.ref cda) cc A outer s₀ H₀ E₀) pins σ H s' → Q (.ref so) s') :
    PySem.wpAt (model P w) (A.deeper (ksEnv qual (defScope st) s₀.heap.objs.size f (.ref cda) cc)) (.func (defBody st) (ksEnv qual (defScope st) s₀.heap.objs.size f (.ref cda) cc))
      (attributeBase (.Call (.Name "super" p0) [] [] p1) attr (ksEnv qual (defScope st) s₀.heap.objs.size f (.ref cda) cc) whole) Q E s := by
  have X : K.In s.heap := I.kIn
  obtain ⟨oc, od, kV, doc, pm, an, ct, osl, rfl, lk, hcd⟩ := F.ex
  obtain ⟨ccl, cdd, vs, ccs, file, tf, hcode, hvs, hfile⟩ := F.code
  obtain ⟨cl, cld, csl, hcell⟩ := F.cell
  obtain ⟨ar, hp, har⟩ := F.par
  obtain ⟨cdD, hD⟩ := Option.isSome_iff_exists.mp F.cls
  obtain ⟨m, hns, hloc⟩ := I.loc
  obtain ⟨u, ru, hu⟩ := hloc 0 ("self" : Str) (.ref a) hself hσ (.inl hsl)
  obtain rfl : u = Value.ref a := ru
  have hmu : m ("self" : Str) = some (.ref a) := by
    rcases hu with ⟨_, e⟩ | ⟨q, _⟩
    · exact e
    · exfalso
      have hk : ∀ k, (cxS CX P w K mg base N qual (defScope st) f (.ref cda) cc A outer s₀ H₀ E₀).env.kindOf ("self" : Str) = some k → k = .local := fun k e => by
        have e' : (defScope st).names.lookup ("self" : Str) = some k := e
        rw [hsl] at e'
        exact (Option.some.inj e').symm
      rcases q with q | q
      · cases hk _ q
      · cases hk _ q
  have Ik := I
  obtain ⟨hh, g, d, t, os⟩ := s
  obtain ⟨oD, hD1, hD2⟩ : ∃ oD, hh.get? D = some oD ∧ oD.data = .cls cdD := by
    unfold PySem.W.clsIn at hD
    split at hD
    · rename_i c d cd' sl ho
      cases hD
      exact ⟨_, X _ _ ho, rfl⟩
    · cases hD
  obtain ⟨mb, hb1, hb2⟩ := I.mod.blt
  refine PySem.ks_wpAt_super_base (env := ksEnv qual (defScope st) s₀.heap.objs.size f (.ref cda) cc) S.sup S.cls hat rfl (X _ _ lk) rfl hp rfl (X _ _ hcode) rfl hvs hfile F.htop ?_
  refine PySem.W.ks_loadName_global S.kind S.sup (Calls.loadGlobal_builtin (env := ksEnv qual (defScope st) s₀.heap.objs.size f (.ref cda) cc) (I.mod.glob.keeps I.bk) F.nosup (hb1.keeps I.bk) ((hb2 _ (by decide +kernel)).trans (by decide +kernel : bootBuiltins ("super" : Str) = some (.type "super"))) ⟨rfl, ?_⟩)
  refine wpAny_loadName_free S.kind S.cls (c := cc) (by show List.lookup ("__class__" : Str) [(("__class__" : Str), cc)] = some cc; simp [List.lookup]) ⟨_, X _ _ hcell, rfl⟩ ?_
  rw [har]
  refine wpAny_loadName_local S.kind hsl hns hmu ?_
  refine PySem.ks_wpAny_isType_cls hD1 hD2 ⟨rfl, ?_⟩
  refine PySem.ks_wpAny_call_super hD1 hD2 J.at_ J.cls (fun c e => ?_) (PySem.W.looks_mroIn X hsub) (fun h' e k => ?_)
  · have := J.no
    unfold PySem.W.notCls at this
    rw [e] at this
    exact Bool.noConfusion this
  · exact h _ ⟨h', g, d, t, os⟩ e k (Ik.kept (t' := t) k)
end
end Z
namespace Z
open PySem L2
open PySem.W (ksEnv ksFn ks_superIn kxs_mw)
def mwO (u x : Addr) : HO := .ext fun h => h.get? u = some (kxs_mw "ValueError.__init__" x)
theorem mwO_ok {P : Program} {w : World} {H : Hp} {h : Heap} {u x : Addr} (e : h.get? u = some (kxs_mw "ValueError.__init__" x)) : ObjOk P w H h u (mwO u x) := ⟨e, ⟨_, e⟩, fun _ _ q k => k _ q⟩
theorem mwO_at {P : Program} {w : World} {H : Hp} {h : Heap} {u x : Addr} (hok : HOk P w H h) (e : H u = some (mwO u x)) : h.get? u = some (kxs_mw "ValueError.__init__" x) := by
  have z : ObjOk P w H h u (.ext fun h => h.get? u = some (kxs_mw "ValueError.__init__" x)) := hok u _ e
  exact z.1
/-- what the class at C, an exception's, says to super().__init__ in a def of the class at D -/
structure SupE (K : PySem.W.Frag) (C D : Addr) : Prop where
  T : OexC K C
  su : ks_superIn K C D "__init__" = some (some (.builtin "ValueError.__init__"))
  ve : PySem.W.subIn K (.ref C) (.type "ValueError") = some true
  mr : PySem.W.mroIn K C (.ref D) = some true
  op : PySem.W.nsIn K PySem.cStatics "thirdparty.any" = some none
def tSupE (K : PySem.W.Frag) (D : Addr) (t : TA) (u' : TS) : TS := fun Dd σ H => ∃ a C, σ[0]? = some (some (.ref a)) ∧ H a = some (exo a C none) ∧ SupE K C D ∧
  ∀ u, H u = none → u ≠ a → t σ (upd H u (mwO u a)) fun vs H2 => H2 u = some (mwO u a) ∧ H2 a = some (exo a C none) ∧ vs.length ≤ 1000 ∧ u' Dd σ H2
theorem insE {P : Program} {w : World} {H : Hp} {h : Heap} {a C : Addr} (hok : HOk P w H h) (e : H a = some (exo a C none)) : ∃ ox, PySem.W.InstAt h a ox C none := by
  obtain ⟨t1, ho⟩ := exo_at hok e
  exact ⟨_, ho, rfl, rfl, trivial⟩
section
variable {CX : CXT} {P : Program} {w : World} {K : PySem.W.Frag} {mg : Str → Option Value} {base : Heap} {N ps : List Str} {x qual : Str} {st : Stmt} {f cda cc D : Addr} {fd : FuncData} {A : Around} {outer : List Env} {s₀ : Shared} {H₀ : Hp} {E₀ : XK}
theorem pssa_supE (F : SupF P K mg x qual st f cda cc D fd) (S : FnScopeS N ps (defScope st)) (hself : N[0]? = some ("self" : Str)) (hsl : (defScope st).names.lookup ("self" : Str) = some .local)
    {e : Expr} {es : List Expr} {sts : List Stmt} {p0 p1 p2 pos pos' : Pos} {t : TA} {u' : TS} {pl : Sem Bool}
    (ha : PA (cxS CX P w K mg base N qual (defScope st) f (.ref cda) cc A outer s₀ H₀ E₀) (e :: es) t) (hr : PSsA (cxS CX P w K mg base N qual (defScope st) f (.ref cda) cc A outer s₀ H₀ E₀) (defBody st) sts u')
    (he : starEach (e :: es) (ksEnv qual (defScope st) s₀.heap.objs.size f (.ref cda) cc) = (false, eval e (ksEnv qual (defScope st) s₀.heap.objs.size f (.ref cda) cc)) :: starEach es (ksEnv qual (defScope st) s₀.heap.objs.size f (.ref cda) cc) := by rfl)
    (hpl : (backTo pos (starEach es (ksEnv qual (defScope st) s₀.heap.objs.size f (.ref cda) cc))).any (·.1) = false := by rfl)
    (hs : swapsWith (.Call (.Attribute (.Call (.Name "super" p0) [] [] p1) "__init__" p2) (e :: es) [] pos) none pos'.line (ksEnv qual (defScope st) s₀.heap.objs.size f (.ref cda) cc) = pure false := by rfl)
    (hc : eval (.Call (.Attribute (.Call (.Name "super" p0) [] [] p1) "__init__" p2) (e :: es) [] pos) (ksEnv qual (defScope st) s₀.heap.objs.size f (.ref cda) cc) = (do
      let ov ← attributeBase (.Call (.Name "super" p0) [] [] p1) "__init__" (ksEnv qual (defScope st) s₀.heap.objs.size f (.ref cda) cc) (eval (.Call (.Name "super" p0) [] [] p1) (ksEnv qual (defScope st) s₀.heap.objs.size f (.ref cda) cc))
      standAt p2.atName
      let (f', first) ← holding [ov] (getMethod ov "__init__" pl)
      callWith pos f' first (backTo pos (starEach (e :: es) (ksEnv qual (defScope st) s₀.heap.objs.size f (.ref cda) cc))) []) := by rfl) :
    PSsA (cxS CX P w K mg base N qual (defScope st) f (.ref cda) cc A outer s₀ H₀ E₀) (defBody st) (.Expr (.Call (.Attribute (.Call (.Name "super" p0) [] [] p1) "__init__" p2) (e :: es) [] pos) pos' :: sts) (tSupE K D t u') := by
  refine ⟨fun pins s σ H Dd I h => ?_⟩
  obtain ⟨a, C, hσ, hH, SE, h⟩ := h
  refine PySem.ks_wpAt_execs_cons (PySem.ks_wpAt_Expr_any ?_ I.quiet hs)
  refine PySem.ks_wpAt_MethodCall (pl := pl) ?_ hc
  obtain ⟨ox, J⟩ := insE I.hok hH
  obtain ⟨nm, q, N', bs, bm, sn, sub, ab, col, dd, k0, k1, k2, k3, k5, hC, hbm⟩ := SE.T.cls
  refine sup_node F S hself hsl I hσ (by decide +kernel) J SE.mr fun so s1 hso k1 I1 => ?_
  have X1 : K.In s1.heap := I1.kIn
  obtain ⟨ox1, J1⟩ := insE I1.hok hH
  obtain ⟨hh, g, d, tt, os⟩ := s1
  have hI : PySem.W.Looks (model P w) hh (isInstance (.ref a) (.type "ValueError")) true := J1.type.andThen (PySem.W.looks_subIn X1 SE.ve)
  have hcl : (PySem.W.clsIn K C) = some { name := nm, bases := bs, mro := .ref C :: bm, ns := N', qualname := q, hasDict := true, slotNames := sn, subclasses := sub, abstract := ab, collection := col, hasDel := false } := by unfold PySem.W.clsIn; rw [hC] <;> rfl
  have hsu := SE.su
  unfold ks_superIn at hsu
  rw [hcl] at hsu
  refine PySem.W.kxs_getMethod PySem.W.kxs_ValueError hso (PySem.W.looks_opaque X1 SE.op) (l₀ := .ref C :: bm) ?_ rfl X1 hsu hI (PySem.W.ks_ne X1 J1 hcl) (by decide +kernel) ?_
  · exact fun A Q E s k q => wpAny_bind ((PySem.W.looks_clsIn X1 hcl) A _ E s k (wpAny_pure q))
  · have hn : H hh.objs.size = none := I1.hok.fresh (Nat.le_refl _)
    have hua : hh.objs.size ≠ a := fun z => by rw [z, hH] at hn; cases hn
    have hget : (hh.push (kxs_mw "ValueError.__init__" a)).get? hh.objs.size = some (kxs_mw "ValueError.__init__" a) := Heap.get?_push_at rfl rfl
    have I2 : Inv (cxS CX P w K mg base N qual (defScope st) f (.ref cda) cc A outer s₀ H₀ E₀) pins σ (upd H hh.objs.size (mwO hh.objs.size a)) ⟨hh.push (kxs_mw "ValueError.__init__" a), g, d, tt + 1, os⟩ :=
      I1.laid (t' := tt + 1) (fun b o z => Heap.get?_push_of_some _ z) (Nat.le_refl _) (mwO_ok hget)
    have h2 := h _ hn hua
    have run := ha.run pos pins _ σ _ _ I2 h2
    show wpAny _ _ (callWith pos (.ref hh.objs.size) [] (backTo pos (starEach (e :: es) (ksEnv qual (defScope st) s₀.heap.objs.size f (.ref cda) cc))) []) _ _ _
    have run' : wpAny (model P w) (A.deeper (ksEnv qual (defScope st) s₀.heap.objs.size f (.ref cda) cc)) (spliced (backTo pos (starEach (e :: es) (ksEnv qual (defScope st) s₀.heap.objs.size f (.ref cda) cc)))) _ _ _ := run
    rw [he] at run' ⊢
    refine PySem.W.kxs_callWith (i := "ValueError.__init__") (x := a) (by show (false || (backTo pos (starEach es _)).any (·.1)) = false; rw [hpl]; rfl) ?_
    refine PySem.Calls.evalArgs_plain (wpAny_mono run' (fun us s3 hq => ?_) fun _ _ z => z)
    obtain ⟨vs, H3, I3, r3, hu3, ha3, hl3, q⟩ := hq
    have hu := mwO_at I3.hok hu3
    refine ⟨hu, ?_⟩
    obtain ⟨t1, ho⟩ := exo_at I3.hok ha3
    have X3 : K.In s3.heap := I3.kIn
    have hC3 := X3 _ _ hC
    have hz : us.length ≤ sizeLine := by
      rw [← Paired.length r3, sizeLine_eq]
      omega
    obtain ⟨h3, g3, d3, t3, os3⟩ := s3
    show wpAny _ _ (call (.ref hh.objs.size) us) _ _ _
    refine wpAny_call (codeAny_of_tree ?_)
    show wpAny _ (A.deeper (ksEnv qual (defScope st) s₀.heap.objs.size f (.ref cda) cc)).in1 (callAny (.ref hh.objs.size) ⟨us, []⟩) _ _ _
    simp only [callAny]
    refine wpAny_bind (wpAny_load hu ?_)
    simp only [kxs_mw, show (Value.type "method-wrapper" == Value.type "method" || Value.type "method-wrapper" == Value.type "builtin_function_or_method" || Value.type "method-wrapper" == Value.type "method-wrapper") = true by decide, if_true]
    refine PySem.W.KFB.if_so (by decide) ?_
    refine wpAny_bind (PySem.W.check_bound_init PySem.F.excBase_ValueError.toExcCallFacts hC3 ho rfl ?_)
    refine wpAny_bind (wpAny_pure (wpAny_pure ?_))
    refine ⟨plainId_quiet PySem.F.excBase_ValueError.init.plain _, codeAny_builtin PySem.F.excBase_ValueError.initEntry ?_⟩
    refine PySem.W.exc_init_tree (cls := .ref C) (t0 := t1) (dv := none) (c2 := .none) (c3 := .none) (b4 := .bool false) ho hz fun h' kk hx' ht' => ?_
    have J3 := I3.write (t' := t3) (x := a) (e := a) (o := exo a C none) (by rw [ha3]; exact True.intro) (.inl rfl) kk ⟨_, hx'⟩ (exo_ok hx')
    have eu : upd H3 a (exo a C none) = H3 := by
      funext b
      by_cases hb : b = a
      · rw [hb, upd_same, ha3]
      · rw [upd_ne hb]
    rw [eu] at J3
    exact hr.run pins _ σ H3 Dd J3 q
end
end Z
set_option Elab.async false
set_option linter.all false
set_option maxRecDepth 100000
set_option maxHeartbeats 4000000
set_option autoImplicit false
namespace Z
open PySem L2
open Evl (Ex)
theorem passN {X : Cx} : Passes (L2.CX X.prog X.w) X E0 := fun _ _ _ _ _ _ _ h => by
  obtain ⟨_, _, _, _, _, _, _, _, _, _, _, _, z⟩ := h
  exact z.elim
theorem passNAt {X : Cx} : ∀ σ, PassesAt (L2.CX X.prog X.w) X σ ((fun _ => E0 : L2.St → XK) σ) := fun σ pins H s e s' I c => passN pins σ H s e s' I c
theorem pass0At {X : Cx} {E : L2.St → XK} : ∀ σ, PassesAt CX0 X σ (E σ) := fun _ _ _ _ _ _ _ h => h.elim
/-! ### own errors: made by __init__(self, f, ..): super().__init__(text); self.f = f; .. -/
def spX1 (K : PySem.W.Frag) (C : Addr) (f : Str) : Sp := fun vs H Q _ => ∃ (a : Addr) (v : V), vs = [.ref a, v] ∧ H a = some (exo a C none) ∧
  ∀ H' d, H d = none → d ≠ a → Ex (cut H a) (cut H' a) → H' a = some (exo a C (some d)) → H' d = some (exd d [(f, v)]) → Q .non H'
def spX2 (K : PySem.W.Frag) (C : Addr) (f g : Str) : Sp := fun vs H Q _ => ∃ (a : Addr) (v u : V), vs = [.ref a, v, u] ∧ H a = some (exo a C none) ∧
  ∀ H' d, H d = none → d ≠ a → Ex (cut H a) (cut H' a) → H' a = some (exo a C (some d)) → H' d = some (exd d [(g, u), (f, v)]) → Q .non H'
theorem exd_lst {d : Addr} {fs : List (Str × V)} {u : HO} (h : exd d fs = u) : ∃ φ, u = .ext φ := ⟨_, h.symm⟩
theorem read_X1 {K : PySem.W.Frag} {C D : Addr} {f : Str} {x : Str} {vs : List V} {H : Hp} {Q : VK} {E : XK} (S : SupE K C D) (hno : PySem.W.findIn K (.ref C) f = some none) (h : spX1 K C f vs H Q E) {n : Nat} (hn : n = vs.length) :
    tSupE K D (tCons (tC (.str x)) tNil) (tOst K f (tVar 0) (tVar 1)) { nx := fun _ H' => Q .non H', rt := Q } (vs.map some ++ List.replicate (n - vs.length) none) H := by
  obtain ⟨a, v, rfl, ha, k⟩ := h
  subst hn
  refine ⟨a, C, rfl, ha, S, fun u hu hua => ⟨upd_same, by rw [upd_ne (Ne.symm hua)]; exact ha, by show 1 ≤ 1000; decide, v, rfl, .ref a, rfl, a, C, rfl, S.T, hno, .inl ⟨by rw [upd_ne (Ne.symm hua)]; exact ha, fun dx hdx hda => ?_⟩⟩⟩
  have hdu : dx ≠ u := fun z => by rw [z, upd_same] at hdx; cases hdx
  rw [upd_ne hdu] at hdx
  refine k _ dx hdx hda ?_ upd_same (by rw [upd_ne hda, upd_same])
  rw [cut_upd, cut_upd_ne hda, cut_upd_ne hua]
  exact (Evl.Ex.new (by rw [cut_ne hua]; exact hu)).trans (Evl.Ex.new (by rw [upd_ne hdu, cut_ne hda]; exact hdx))
theorem read_X2 {K : PySem.W.Frag} {C D : Addr} {f g : Str} {x : Str} {vs : List V} {H : Hp} {Q : VK} {E : XK} (S : SupE K C D) (hno : PySem.W.findIn K (.ref C) f = some none) (hno2 : PySem.W.findIn K (.ref C) g = some none) (h : spX2 K C f g vs H Q E) {n : Nat} (hn : n = vs.length) :
    tSupE K D (tCons (tC (.str x)) tNil) (tSeq (tOst K f (tVar 0) (tVar 1)) (tOst K g (tVar 0) (tVar 2))) { nx := fun _ H' => Q .non H', rt := Q } (vs.map some ++ List.replicate (n - vs.length) none) H := by
  obtain ⟨a, v, w, rfl, ha, k⟩ := h
  subst hn
  refine ⟨a, C, rfl, ha, S, fun u hu hua => ⟨upd_same, by rw [upd_ne (Ne.symm hua)]; exact ha, by show 1 ≤ 1000; decide, v, rfl, .ref a, rfl, a, C, rfl, S.T, hno, .inl ⟨by rw [upd_ne (Ne.symm hua)]; exact ha, fun dx hdx hda => ?_⟩⟩⟩
  have hdu : dx ≠ u := fun z => by rw [z, upd_same] at hdx; cases hdx
  rw [upd_ne hdu] at hdx
  refine ⟨w, rfl, .ref a, rfl, a, C, rfl, S.T, hno2, .inr ⟨dx, [(f, v)], upd_same, by rw [upd_ne hda, upd_same], by show 1 ≤ 900; decide, ?_⟩⟩
  refine k _ dx hdx hda ?_ (by rw [upd_ne (Ne.symm hda), upd_same]) upd_same
  rw [cut_upd_ne hda, cut_upd, cut_upd_ne hda, cut_upd_ne hua, upd_upd]
  exact (Evl.Ex.new (by rw [cut_ne hua]; exact hu)).trans (Evl.Ex.new (by rw [upd_ne hdu, cut_ne hda]; exact hdx))
/-- raise C(e), C(e, e') -/
theorem mk_X1 {K : PySem.W.Frag} {C : Addr} {f : Str} {te : TE} {σ : L2.St} {H : Hp} {v : V} {Q : XK} (h : EV K te σ H v) (k : ∀ d H', H d = none → Ex H H' → H' d = some (.xd [(f, v)]) → Q (.ref C) (some d) H') :
    tMkO C (spX1 K C f) [] (tCons te tNil) σ H Q := h H (Ex.refl H) _ fun H1 e1 => ⟨by show 1 ≤ 1000; decide, fun a ha => ⟨a, v, rfl, upd_same, fun H' d hd hda hx h1 h2 => by
  rw [upd_ne hda] at hd
  refine ⟨rfl, d, _, h1, h2, hd, k d _ (fresh_back e1 hd) (e1.trans fun b o hb => ?_) upd_same⟩
  have hba : b ≠ a := ne_of_none hb ha
  rw [upd_ne (ne_of_none hb hd)]
  show (if b = a then none else H' b) = some o
  rw [if_neg hba]
  have := hx b o (by rw [cut_ne hba, upd_ne hba]; exact hb)
  rwa [cut_ne hba] at this⟩⟩
theorem mk_X2 {K : PySem.W.Frag} {C : Addr} {f g : Str} {te tu : TE} {σ : L2.St} {H : Hp} {v u : V} {Q : XK} (h : EV K te σ H v) (h' : EV K tu σ H u) (k : ∀ d H', H d = none → Ex H H' → H' d = some (.xd [(g, u), (f, v)]) → Q (.ref C) (some d) H') :
    tMkO C (spX2 K C f g) [] (tCons te (tCons tu tNil)) σ H Q := h H (Ex.refl H) _ fun H0 e0 => h' H0 e0 _ fun H1 e1 => ⟨by show 2 ≤ 1000; decide, fun a ha => ⟨a, v, u, rfl, upd_same, fun H' d hd hda hx h1 h2 => by
  rw [upd_ne hda] at hd
  refine ⟨rfl, d, _, h1, h2, hd, k d _ (fresh_back (e0.trans e1) hd) ((e0.trans e1).trans fun b o hb => ?_) upd_same⟩
  have hba : b ≠ a := ne_of_none hb ha
  rw [upd_ne (ne_of_none hb hd)]
  show (if b = a then none else H' b) = some o
  rw [if_neg hba]
  have := hx b o (by rw [cut_ne hba, upd_ne hba]; exact hb)
  rwa [cut_ne hba] at this⟩⟩
theorem len_X1 {K : PySem.W.Frag} {C : Addr} {f s1 s2 : Str} : ∀ vs H Q E, spX1 K C f vs H Q E → vs.length = [s1, s2].length := fun vs H Q E h => by
  obtain ⟨a, v, rfl, _⟩ := h
  rfl
theorem len_X2 {K : PySem.W.Frag} {C : Addr} {f g s1 s2 s3 : Str} : ∀ vs H Q E, spX2 K C f g vs H Q E → vs.length = [s1, s2, s3].length := fun vs H Q E h => by
  obtain ⟨a, v, u, rfl, _⟩ := h
  rfl
/-! ### a caught one: isinstance(e, c) -/
def rIsX (K : PySem.W.Frag) (a : Addr) (cls : Value) (d : Option Addr) : List V → Hp → VK → Prop := fun xs H Q => ∃ (c : V) (cv : Value) (b : Bool) (D dd : Addr) (fs : List (Str × V)), xs = [.ref a, c] ∧ cls = .ref D ∧ ExcC K D ∧ d = some dd ∧ H dd = some (.xd fs) ∧
  (∀ u, RelV c u → u = cv) ∧ PySem.W.kitOne K (.ref D) cv = some b ∧ Q (.bl b) H
theorem call_isX {X : Cx} {a : Addr} {cls : Value} {d : Option Addr} {oe : Obj} {pn : List (Addr × Obj)} (hz : Zc cls d oe) (hf : ∃ vs, oe.data = .fields vs) : CallR (X.suite a ((a, oe) :: pn)) (.builtin "isinstance") (rIsX X.K a cls d) := by
  intro pins s σ H xs us Q I r h
  obtain ⟨c, cv, b, D, dd, fs, rfl, rfl, C, rfl, hd, hcv, e, q⟩ := h
  cases r with
  | cons rx rr =>
    cases rr with
    | cons rt rr =>
      cases rr
      cases rx
      have ec := hcv _ rt
      subst ec
      obtain ⟨hget, _⟩ := I.pin (a, oe) (List.mem_append.mpr (.inl List.mem_cons_self))
      obtain ⟨vs, hv⟩ := hf
      have hx : ObjOk X.prog X.w H s.heap dd (.xd fs) := I.hok dd _ hd
      obtain ⟨mA, ⟨od, _, _, ho, _⟩, _⟩ := hx
      have J : PySem.W.InstAt s.heap a oe D (some od) := ⟨hget, hz.1, by unfold PySem.W.notCls; rw [hv] <;> rfl, by rw [hz.2]; exact ho⟩
      obtain ⟨cd, hc, _⟩ := PySem.W.any_some C.hd
      exact PySem.W.kia_one (PySem.W.kitx_exc (by rw [hc]; rfl) C.hg C.hk C.hs C.ha C.hn C.ht C.hm) I.kIn J e (fun z => nomatch z) fun tk => ⟨.bl b, H, I.kept (t' := tk) fun _ _ z => z, rfl, q⟩
/-! ### C(e, ..) where what is raised is wished for at the caller's slots -/
def tMakeS (C : Addr) (sp : Sp) (E : L2.St → XK) (t : TA) : TE := fun σ H Q => t σ H fun vs H1 => ∀ x dx, H1 x = none → H1 dx = none → dx ≠ x →
  sp (.ref x :: vs) (upd (upd H1 dx (.own x)) x (.ins C dx [])) (fun v H2 => v = .non ∧ Q (.ref x) H2) (E σ)
section
variable {X : Cx} {CX : CXT} {k : Nat} {f C : Addr} {fd : FuncData} {ps : List Str} {sp : Sp} {E : L2.St → XK} {x : Str} {p pos : Pos} {e : Expr} {es : List Expr} {t : TA}
theorem pe_makeS (M : Mk X.K C f) (F : FnOk X.prog X.w X.K X.mg X.base CX k f fd ps sp) (hr : Room (k + 1) X.A) (hg : Gl X x) (hm : X.mg x = some (.ref C)) (hb : Binds X.K fd ps []) (hx : ∀ σ, PassesAt CX X σ (E σ))
    (ha : PA X (e :: es) t) (hdb : (x == ("__debug__" : Str)) = false := by decide) (he : starEach (e :: es) X.env = (false, eval e X.env) :: starEach es X.env := by rfl) (hpl : (backTo pos (starEach es X.env)).any (·.1) = false := by rfl) :
    PE X (.Call (.Name x p) (e :: es) [] pos) (tMakeS C sp E t) := by
  refine ⟨fun pins s0 σ H0 Q I0 h => wpAny_Call_Name_kw (ld_glob I0 hg hm ?_ hdb)⟩
  refine PySem.W.callWith_K (h₀ := X.base) I0.ok.mod.kin M.kp (thn (ha.run pos pins s0 σ H0 _ I0 h) fun us s ⟨vs, H, I, r, h⟩ => ⟨I.kIn, ?_⟩) he hpl
  have hq := h (s.heap.objs.size + 1) s.heap.objs.size (I.hok.fresh (Nat.le_succ _)) (I.hok.fresh (Nat.le_refl _)) (Nat.ne_of_lt (Nat.lt_succ_self _))
  have I2 := Inv.made (C := C) I
  have r2 : Vals (V.ref (s.heap.objs.size + 1) :: vs) (Value.ref (s.heap.objs.size + 1) :: us) := .cons rfl r
  have hl := (r2.length.symm.trans (F.len _ _ _ _ hq))
  have hbb := hb _ (Value.ref (s.heap.objs.size + 1) :: us) I2.kIn (by rw [List.append_nil]; exact hl)
  rw [List.append_nil] at hbb
  refine wpAny_call (make_map (f := f) I.kIn M.makes M.init (beq_iff_eq.mp M.fn) (codeAny_mono (F.run _ X.stack _ _ _ _ _ _ (E σ) (hr.make C us []) (I2.env0.make C us []) hbb r2 hq) fun r s' hq' => ?_))
  cases r with
  | error er => exact hx σ pins _ _ er s' I2 hq'
  | ok fl =>
    cases fl with
    | ret u =>
      obtain ⟨v, H', I3, rv, ev, q3⟩ := I2.after hq'
      subst ev
      exact ⟨rv, ⟨V.ref (s.heap.objs.size + 1), H', I3, rfl, q3⟩⟩
    | next => exact False.elim hq'
    | brk => exact False.elim hq'
    | cont => exact False.elim hq'
end
/-! ### a op b by an own method of both -/
structure OpC (K : PySem.W.Frag) (C f : Addr) (m : Str) : Prop where
  first : PySem.W.selfFirst K C = true
  at_ : PySem.W.findIn K (.ref C) m = some (some (.ref f))
  fn : PySem.W.isFn K (.ref f) = true
def tOwnOp (C : Addr) (sp : Sp) (E : L2.St → XK) (ta tb : TE) : TE := fun σ H Q => ta σ H fun x H1 => tb σ H1 fun y H2 => ∃ a dx fs b dy gs c, x = .ref a ∧ y = .ref b ∧ H2 a = some (.ins C dx fs) ∧ H2 b = some (.ins C dy gs) ∧
  sp [x, y] H2 (fun v H3 => v = .ref c ∧ Q v H3) (E σ)
def tOwnOp' (C : Addr) (sp : Sp) (E : L2.St → XK) (ta tb : TE) : TE := fun σ H Q => ta σ H fun x H1 => tb σ H1 fun y H2 => ∃ a dx fs b dy gs, x = .ref a ∧ y = .ref b ∧ H2 a = some (.ins C dx fs) ∧ H2 b = some (.ins C dy gs) ∧ sp [x, y] H2 Q (E σ)
theorem relV_ni {v : V} {Q : Value → Shared → Prop} {u : Value} {s : Shared} (r : RelV v u) (q : Q u s) : PySem.W.CmpBack Q u s := by
  cases v with
  | non => cases (show u = _ from r); exact q
  | bl _ => cases (show u = _ from r); exact q
  | int _ => obtain ⟨t, rfl⟩ := r; exact q
  | str _ => obtain ⟨t, rfl⟩ := r; exact q
  | byt _ => obtain ⟨t, rfl⟩ := r; exact q
  | flt _ => obtain ⟨t, rfl⟩ := r; exact q
  | ref _ => cases (show u = _ from r); exact q
  | ty _ => cases (show u = _ from r); exact q
section
variable {X : Cx} {CX : CXT} {k : Nat} {f C : Addr} {fd : FuncData} {ps : List Str} {sp : Sp} {E : L2.St → XK} {pos : Pos} {a b : Expr} {ta tb : TE} {op : Operator}
theorem pe_own (O : OpC X.K C f (PySem.dunder op.info.2)) (F : FnOk X.prog X.w X.K X.mg X.base CX k f fd ps sp) (hr : Room k X.A) (hb : Binds X.K fd ps []) (hx : ∀ σ, PassesAt CX X σ (E σ)) (ha : PE X a ta) (hb' : PE X b tb) :
    PE X (.BinOp a op b pos) (tOwnOp' C sp E ta tb) := by
  refine ⟨fun pins s σ H Q I h => wpAny_BinOp (bin ha hb' I h fun v u s2 x y H2 I2 rx ry q => ?_)⟩
  obtain ⟨p, dx, fs, r, dy, gs, rfl, rfl, hp, hq, hs⟩ := q
  obtain rfl : v = Value.ref p := rx
  obtain rfl : u = Value.ref r := ry
  obtain ⟨mA, O1, _⟩ := ins_get I2.hok hp
  obtain ⟨od, J, _⟩ := O1.look
  obtain ⟨mB, O2, _⟩ := ins_get I2.hok hq
  obtain ⟨od', J', _⟩ := O2.look
  obtain ⟨m, hF⟩ := I2.fr
  refine PySem.W.binop_K hF I2.ok.mod.kin J J'.type O.first O.at_ O.fn ?_
  refine thn (run_fnS F hr hb (hx σ) (vs := [.ref p, .ref r]) (us := [.ref p, .ref r]) I2 (.cons rfl (.cons rfl .nil)) hs) fun v s' hv => ?_
  obtain ⟨w, H', I', rw', q⟩ := hv
  exact relV_ni rw' ⟨w, H', I', rw', q⟩
end
end Z
set_option Elab.async false
set_option linter.all false
set_option maxRecDepth 100000
set_option maxHeartbeats 4000000
set_option autoImplicit false
namespace Z
open PySem L2
open PySem.W (ksEnv ksFn ks_superIn)
/-- what an instance of the class at C says to super().__init__ in a def of the class at D: the own def at f2 -/
structure SupM (K : PySem.W.Frag) (C D f2 : Addr) : Prop where
  su : ks_superIn K C D "__init__" = some (some (.ref f2))
  ty : PySem.W.typeIn K (.ref f2) = some (.type "function")
  mr : PySem.W.mroIn K C (.ref D) = some true
  op : PySem.W.nsIn K PySem.cStatics "thirdparty.any" = some none
  fi : PySem.W.fnIn K f2 = true
def tSupM (K : PySem.W.Frag) (D f2 : Addr) (sp : Sp) (E : XK) (t : TA) (u' : TS) : TS := fun Dd σ H => ∃ a C dx fs, σ[0]? = some (some (.ref a)) ∧ H a = some (.ins C dx fs) ∧ SupM K C D f2 ∧
  ∀ q, H q = none → q ≠ a → t σ (upd H q (.met f2 a)) fun vs H2 => H2 q = some (.met f2 a) ∧ sp (.ref a :: vs) H2 (fun _ H3 => u' Dd σ H3) E
section
variable {CX CY : CXT} {P : Program} {w : World} {K : PySem.W.Frag} {mg : Str → Option Value} {base : Heap} {N ps : List Str} {x qual : Str} {st : Stmt} {f cda cc D : Addr} {fd : FuncData} {A : Around} {outer : List Env} {s₀ : Shared} {H₀ : Hp} {E₀ : XK}
theorem pssa_supM (F : SupF P K mg x qual st f cda cc D fd) (S : FnScopeS N ps (defScope st)) (hself : N[0]? = some ("self" : Str)) (hsl : (defScope st).names.lookup ("self" : Str) = some .local)
    {e : Expr} {es : List Expr} {sts : List Stmt} {p0 p1 p2 pos pos' : Pos} {t : TA} {u' : TS} {pl : Sem Bool} {k : Nat} {f2 : Addr} {fd2 : FuncData} {ps2 : List Str} {sp : Sp} {E : XK}
    (G : FnOk P w K mg base CY k f2 fd2 ps2 sp) (hr2 : Room k (A.deeper (ksEnv qual (defScope st) s₀.heap.objs.size f (.ref cda) cc))) (hb2 : Binds K fd2 ps2 []) (hx : Passes CY (cxS CX P w K mg base N qual (defScope st) f (.ref cda) cc A outer s₀ H₀ E₀) E)
    (ha : PA (cxS CX P w K mg base N qual (defScope st) f (.ref cda) cc A outer s₀ H₀ E₀) (e :: es) t) (hr : PSsA (cxS CX P w K mg base N qual (defScope st) f (.ref cda) cc A outer s₀ H₀ E₀) (defBody st) sts u')
    (he : starEach (e :: es) (ksEnv qual (defScope st) s₀.heap.objs.size f (.ref cda) cc) = (false, eval e (ksEnv qual (defScope st) s₀.heap.objs.size f (.ref cda) cc)) :: starEach es (ksEnv qual (defScope st) s₀.heap.objs.size f (.ref cda) cc) := by rfl)
    (hpl : (backTo pos (starEach es (ksEnv qual (defScope st) s₀.heap.objs.size f (.ref cda) cc))).any (·.1) = false := by rfl)
    (hs : swapsWith (.Call (.Attribute (.Call (.Name "super" p0) [] [] p1) "__init__" p2) (e :: es) [] pos) none pos'.line (ksEnv qual (defScope st) s₀.heap.objs.size f (.ref cda) cc) = pure false := by rfl)
    (hc : eval (.Call (.Attribute (.Call (.Name "super" p0) [] [] p1) "__init__" p2) (e :: es) [] pos) (ksEnv qual (defScope st) s₀.heap.objs.size f (.ref cda) cc) = (do
      let ov ← attributeBase (.Call (.Name "super" p0) [] [] p1) "__init__" (ksEnv qual (defScope st) s₀.heap.objs.size f (.ref cda) cc) (eval (.Call (.Name "super" p0) [] [] p1) (ksEnv qual (defScope st) s₀.heap.objs.size f (.ref cda) cc))
      standAt p2.atName
      let (f', first) ← holding [ov] (getMethod ov "__init__" pl)
      callWith pos f' first (backTo pos (starEach (e :: es) (ksEnv qual (defScope st) s₀.heap.objs.size f (.ref cda) cc))) []) := by rfl) :
    PSsA (cxS CX P w K mg base N qual (defScope st) f (.ref cda) cc A outer s₀ H₀ E₀) (defBody st) (.Expr (.Call (.Attribute (.Call (.Name "super" p0) [] [] p1) "__init__" p2) (e :: es) [] pos) pos' :: sts) (tSupM K D f2 sp E t u') := by
  refine ⟨fun pins s σ H Dd I h => ?_⟩
  obtain ⟨a, C, dx, fs, hσ, hH, SM, h⟩ := h
  refine PySem.ks_wpAt_execs_cons (PySem.ks_wpAt_Expr_any ?_ I.quiet hs)
  refine PySem.ks_wpAt_MethodCall (pl := pl) ?_ hc
  obtain ⟨mA, O, _⟩ := ins_get I.hok hH
  obtain ⟨od, J, _⟩ := O.look
  refine sup_node F S hself hsl I hσ (by decide +kernel) J SM.mr fun so s1 hso k1 I1 => ?_
  have X1 : K.In s1.heap := I1.kIn
  obtain ⟨mA1, O1, _⟩ := ins_get I1.hok hH
  obtain ⟨od1, J1, _⟩ := O1.look
  obtain ⟨hh, g, d, tt, os⟩ := s1
  have hsu := SM.su
  cases hcl : PySem.W.clsIn K C with
  | none => unfold ks_superIn at hsu; rw [hcl] at hsu; cases hsu
  | some cd =>
    unfold ks_superIn at hsu
    rw [hcl] at hsu
    obtain ⟨of, hof, hofc⟩ : ∃ of, hh.get? f2 = some of ∧ of.cls = .type "function" := by
      have ht' : (K.lookup f2).map (·.cls) = some (.type "function") := SM.ty
      cases z : K.lookup f2 with
      | none => rw [z] at ht'; cases ht'
      | some of => rw [z] at ht'; exact ⟨of, X1 _ _ z, Option.some.inj ht'⟩
    refine PySem.ks_wpAny_getMethod_super hso (PySem.W.looks_opaque X1 SM.op) (l₀ := cd.mro) ?_ rfl X1 hsu hof hofc (PySem.W.ks_ne X1 J1 hcl) (by decide +kernel) ?_
    · exact fun A Q E s k q => wpAny_bind ((PySem.W.looks_clsIn X1 hcl) A _ E s k (wpAny_pure q))
    · have hn : H hh.objs.size = none := I1.hok.fresh (Nat.le_refl _)
      have hua : hh.objs.size ≠ a := fun z => by rw [z, hH] at hn; cases hn
      have I2 : Inv (cxS CX P w K mg base N qual (defScope st) f (.ref cda) cc A outer s₀ H₀ E₀) pins σ (upd H hh.objs.size (.met f2 a)) ⟨hh.push (PySem.W.methodObj (.ref f2) (.ref a)), g, d, tt + 1, os⟩ :=
        I1.laid (t' := tt + 1) (a := hh.objs.size) (o := .met f2 a) (fun b u z => Heap.get?_push_of_some _ z) (Nat.le_refl _)
          (show (hh.push (PySem.W.methodObj (.ref f2) (.ref a))).get? hh.objs.size = some (PySem.W.methodObj (.ref f2) (.ref a)) from Heap.get?_push_size hh rfl)
      have run := ha.run pos pins _ σ _ _ I2 (h _ hn hua)
      show wpAny _ _ (callWith pos (.ref hh.objs.size) [] (backTo pos (starEach (e :: es) (ksEnv qual (defScope st) s₀.heap.objs.size f (.ref cda) cc))) []) _ _ _
      have run' : wpAny (model P w) (A.deeper (ksEnv qual (defScope st) s₀.heap.objs.size f (.ref cda) cc)) (spliced (backTo pos (starEach (e :: es) (ksEnv qual (defScope st) s₀.heap.objs.size f (.ref cda) cc)))) _ _ _ := run
      rw [he] at run' ⊢
      refine callwith_met (X := cxS CX P w K mg base N qual (defScope st) f (.ref cda) cc A outer s₀ H₀ E₀) (g := f2) (a := a) (by show ((false || (backTo pos (starEach es _)).any (·.1)) || false) = false; rw [hpl]; rfl) SM.fi ?_
      refine PySem.Calls.evalArgs_plain (wpAny_mono run' (fun us s3 hq => ?_) fun _ _ z => z)
      obtain ⟨vs, H3, I3, r3, hm3, q⟩ := hq
      refine ⟨met_P I3 hm3, ?_⟩
      have fr := FnOk.raw (ds := []) (dvs := []) G hb2 .nil
      refine wpAny_call (PySem.W.method_call (met_P I3 hm3).1 ?_)
      refine codeAny_mono (run_fnR (X := cxS CX P w K mg base N qual (defScope st) f (.ref cda) cc A outer s₀ H₀ E₀) (us := Value.ref a :: us) (vs := V.ref a :: vs) fr hr2 hx I3 (.cons rfl r3) (by rw [List.append_nil]; exact q)) fun r s' hq => ?_
      cases r with
      | error er => exact hq
      | ok fl =>
        cases fl with
        | ret v =>
          obtain ⟨w', H', I4, rw', q4⟩ := hq
          exact hr.run pins _ σ H' Dd I4 q4
        | next => exact False.elim hq
        | brk => exact False.elim hq
        | cont => exact False.elim hq
end
end Z
set_option Elab.async false
set_option linter.all false
set_option maxRecDepth 100000
set_option maxHeartbeats 4000000
set_option autoImplicit false
namespace Z
open PySem L2
open Evl (Ex)
section
variable {X : Cx} {pins : List (Addr × Obj)} {σ : L2.St} {H : Hp} {s : Shared}
/-- a tracked thing that is only told by a fact is let go -/
theorem inv_drop {it : Addr} {φ : Heap → Prop} (I : Inv X pins σ H s) (e : H it = some (.ext φ)) : Inv X pins σ (cut H it) s := by
  have ne : ∀ b o, H b = some o → o ≠ .ext φ → b ≠ it := fun b o h d z => by
    rw [z, e] at h
    exact d (Option.some.inj h).symm
  have up : ∀ b o, H b = some o → o ≠ .ext φ → cut H it b = some o := fun b o h d => by
    rw [cut_ne (ne b o h d)]
    exact h
  have no : ∀ b, H b = none → cut H it b = none := fun b h => by
    by_cases q : b = it
    · rw [q, cut_same]
    · rw [cut_ne q]
      exact h
  refine ⟨I.ok, I.os, I.bare, ⟨I.base.keep, I.base.slot, fun b o a c d => no b (I.base.free b o a c d), I.base.there, fun b xs h => up b _ (I.base.tups b xs h) (by intro z; cases z), fun b o u h => up b _ (I.base.frzs b o u h) (by intro z; cases z), fun b ps h => ?_⟩,
    I.loc, I.cell, no _ I.free, fun x c h => no c (I.freeC x c h), fun p hp => ?_, fun b o h => ?_, I.len⟩
  · obtain ⟨m, h⟩ := I.base.tbls b ps h
    exact ⟨m, up b _ h (by intro z; cases z)⟩
  · obtain ⟨h1, h2, h3⟩ := I.pin p hp
    exact ⟨h1, no _ h2, h3⟩
  · have hb : b ≠ it := fun z => by rw [z, cut_same] at h; cases h
    rw [cut_ne hb] at h
    exact (I.hok b o h).stay (fun _ _ _ q => q) (fun c h => up c _ h (by intro z; cases z)) fun c xs h => up c _ h (by intro z; cases z)
/-- a new tracked thing, told by a fact, may be an iterator -/
theorem fp_new {H' : Hp} {s' : Shared} {it : Addr} {u : HO} (I : Inv X pins σ H s) (I' : Inv X pins σ H' s') (big : s.heap.objs.size ≤ it) (e : H' it = some u) : FpOk X pins (cut H' it) it := by
  have nn : ∀ b, H' b = none → b ≠ it := fun b h z => by rw [z, e] at h; cases h
  exact ⟨cut_same, (nn _ I'.free).symm, fun z => nn it (by
      obtain ⟨_, o, ho, _⟩ := I'.ok.funs.mem z
      exact I'.base.free it o ho (I'.ok.frf it z) fun y => I'.ok.exfs it y z) rfl, .inr (Nat.le_trans I.sz big), fun x c h => nn c (I'.freeC x c h), fun p hp => nn _ (I'.pin p hp).2.1⟩
end
/-! ### a promise that knows how large the heap was at the call -/
structure FnOkN (P : Program) (w : World) (K : PySem.W.Frag) (mg : Str → Option Value) (base : Heap) (CX : CXT) (k : Nat) (f : Addr) (fd : FuncData) (ps : List Str) (sp : Nat → Sp) : Prop where
  len : ∀ n vs H Q E, sp n vs H Q E → vs.length = ps.length
  run : ∀ (A : Around) (outer : List Env) (s : Shared) (H : Hp) (args : Args) (us : List Value) (vs : List V) (Q : VK) (E : XK), Room k A → Env0 P w K mg base A outer s H → BindsTo s fd args (ps.zip us) → Vals vs us → sp s.heap.objs.size vs H Q E →
    codeAny (model P w) A (.call (.ref f) args) (CR CX outer P w H s Q E) s
theorem fun_okN {CX : CXT} {P : Program} {w : World} {K : PySem.W.Frag} {mg : Str → Option Value} {base : Heap} {k : Nat} {f : Addr} {fd : FuncData} {x qual : Str} {st : Stmt} {N ps : List Str} {sp : Nat → Sp} (F : Fun K x qual st f fd) (S : FnScope N ps (defScope st))
    (len : ∀ n vs H Q E, sp n vs H Q E → vs.length = ps.length)
    (hbody : ∀ (cdv : Value) (A : Around) (outer : List Env) (s : Shared) (H : Hp) (vs : List V) (Q : VK) (E : XK), Room k (A.deeper (PyProof.Rows.envOfC qual (defScope st) s.heap.objs.size f cdv)) → sp s.heap.objs.size vs H Q E →
      ∃ t, PSs (cxOf CX P w K mg base N qual (defScope st) f cdv A outer s H E) (defBody st) t ∧ t { nx := fun _ H' => Q .non H', rt := Q } (L2.start N vs) H) : FnOkN P w K mg base CX (k + 1) f fd ps sp := by
  obtain ⟨oc, od, kV, doc, pm, an, cdv, ct, osl, rfl, lk, hcd⟩ := F.ex
  refine ⟨len, fun A outer s H args us vs Q E hr e0 hb r hsp => ?_⟩
  have hl := len _ _ _ _ _ hsp
  have up : ∀ b o, base.get? b = some o → s.heap.get? b = some o := fun b o e => (e0.bs b o e).1
  have KX : K.In s.heap := e0.mod.kin.keeps up
  refine codeAny_call_function hr.depth (KX _ _ lk) rfl S.co S.gen rfl (PySem.W.codeRec_of KX hcd) (hb _ _ _ _ (wpAny_newFunctionEnv_cells S.kind (fun ⟨n, v⟩ hy => ?_) fun env he s1 x => ?_))
  · rcases S.par n (List.of_mem_zip hy).1 with q | q
    · exact .inl q
    · exact .inr ⟨q, PySem.W.cellsFrom_some _ _ _ (.inl q)⟩
  · subst he
    refine ⟨(e0.mod.nolimit.keeps up).keeps x.toInCall.keep, codeAny_func ?_⟩
    obtain ⟨t, ht, hq⟩ := hbody cdv A outer s H vs Q E (hr.deeper _) hsp
    have I : Inv (cxOf CX P w K mg base N qual (defScope st) f cdv A outer s H E) [] (L2.start N vs) H s1 := inv_start S hr.hd e0 hl r x
    refine wpAny_mono (ht.run [] s1 (L2.start N vs) H _ I hq) (fun fl s' hs => ?_) fun e s' hs => hs
    cases fl with
    | ret u =>
      obtain ⟨v, σ', H', J, rv, q⟩ := hs
      exact ⟨v, H', J.os, J.bare, J.base, J.hok, rv, q⟩
    | next =>
      obtain ⟨σ', H', J, q⟩ := hs
      exact ⟨V.non, H', J.os, J.bare, J.base, J.hok, rfl, q⟩
    | brk =>
      obtain ⟨_, _, _, q⟩ := hs
      exact False.elim q
    | cont =>
      obtain ⟨_, _, _, q⟩ := hs
      exact False.elim q
def rIterN (n : Nat) (K : PySem.W.Frag) : List V → Hp → VK → Prop := fun xs H Q => ∃ (l : Addr) (zs : List V), xs = [.ref l] ∧ SqL K H l zs ∧ ∀ it, H it = none → n ≤ it → Q (.ref it) (upd H it (ItO l it 0))
theorem call_iterN {X : Cx} : CallR X (.builtin "iter") (rIterN X.s_0.heap.objs.size X.K) := by
  intro pins s σ H xs us Q I r h
  obtain ⟨l, zs, rfl, hq, k⟩ := h
  cases r with
  | cons r1 r2 =>
    cases r2
    cases r1
    obtain ⟨its, rv, p, hz⟩ := I.list hq
    refine GNX.call_iter p.isList ?_
    have e : (s.heap.push (GNX.itObj l 0)).get? s.heap.objs.size = some (GNX.itObj l 0) := Heap.get?_push_at rfl rfl
    exact ⟨.ref s.heap.objs.size, _, I.laid (t' := s.toks) (fun b u q => Heap.get?_push_of_some _ q) (Nat.le_refl _) (itO_ok e), rfl, k _ (I.hok.fresh (Nat.le_refl _)) I.sz⟩
/-- a class whose instances hand on a list's iterator -/
structure OwnIt (K : PySem.W.Frag) (C f : Addr) : Prop where
  at_ : PySem.W.findIn K (.ref C) "__iter__" = some (some (.ref f))
  fn : PySem.W.isFn K (.ref f) = true
def iOwn (K : PySem.W.Frag) (C : Addr) (sp : Nat → Sp) (ta : TE) : TI := fun σ H R => ta σ H fun x H1 => ∃ a dx fs, x = .ref a ∧ H1 a = some (.ins C dx fs) ∧
  ∀ n, sp n [x] H1 (fun v H2 => ∃ l it xs, v = .ref it ∧ n ≤ it ∧ H2 it = some (ItO l it 0) ∧ SqL K (cut H2 it) l xs ∧ R (Itl K l) (cut H2 it)) E0
theorem sp_next {A : Around} {M : Model} {E : Value → Shared → Prop} {s : Shared} {l it : Addr} {i : Nat} {Q : Option Value → Shared → Prop} (h : s.heap.IsListIter it l i) (q : Q (some (.builtin "list_iterator.__next__")) s) : wpAny M A (specialOf (.ref it) "__next__") Q E s := by
  obtain ⟨o, ho, hc, _⟩ := h
  exact wpAny_specialOf ⟨o, ho, hc⟩ PySem.slot_listiter_next.lookup q
theorem pi_own {X : Cx} {CX : CXT} {k : Nat} {f C : Addr} {fd : FuncData} {ps : List Str} {sp : Nat → Sp} {tg e : Expr} {ta : TE} (O : OwnIt X.K C f) (F : FnOkN X.prog X.w X.K X.mg X.base CX k f fd ps sp) (hr : Room k X.A) (hb : Binds X.K fd ps []) (hx : Passes CX X E0) (he : PE X e ta) :
    PI X tg e (iOwn X.K C sp ta) := by
  refine ⟨fun pins s0 σ H0 R I0 h => thn (he.run pins s0 σ H0 _ I0 h) fun v s ⟨x, H, I, r, q⟩ => ?_⟩
  obtain ⟨a, dx, fs, rfl, ha, hs⟩ := q
  obtain rfl : v = Value.ref a := r
  obtain ⟨mA, O1, _⟩ := ins_get I.hok ha
  obtain ⟨od, J, _⟩ := O1.look
  obtain ⟨m, hF⟩ := I.fr
  refine PySem.W.owit_iter hF I.ok.mod.kin J O.at_ O.fn ?_
  have hl : [V.ref a].length = ps.length := F.len _ _ _ _ _ (hs 0)
  have b := hb s [Value.ref a] I.kIn (by rw [List.append_nil]; exact hl)
  rw [List.append_nil] at b
  refine wpAny_call (codeAny_mono (F.run X.A X.stack s H ⟨[.ref a], []⟩ [.ref a] [.ref a] _ E0 hr I.env0 b (.cons rfl .nil) (hs _)) fun r s' hq => ?_)
  cases r with
  | error er => exact hx pins σ H s er s' I hq
  | ok fl =>
    cases fl with
    | next => exact False.elim hq
    | brk => exact False.elim hq
    | cont => exact False.elim hq
    | ret u =>
      obtain ⟨v, H', os2, bare2, un2, hok2, rv, l, it, xs, rfl, hn, hi, hsq, hR⟩ := hq
      have I' : Inv X pins σ H' s' := I.call' (ch := []) os2 un2 hok2 bare2 fun b z => absurd z (by simp)
      obtain rfl : u = Value.ref it := rv
      have hg := itO_get I' hi
      have st : s'.heap.IsListIter it l 0 := ⟨_, hg, rfl, rfl⟩
      refine sp_next st ?_
      show PIE X pins σ tg R (.ref it) s'
      refine ⟨it, [it], _, Itl X.K l, cut H' it, rfl, inv_drop I' hi, turn_list l it, st, fun c hc => ?_, hR⟩
      obtain rfl : c = it := by simpa using hc
      exact fp_new I I' hn hi
end Z
set_option Elab.async false
set_option linter.all false
set_option maxRecDepth 100000
set_option maxHeartbeats 2000000
set_option autoImplicit false
namespace Z
open PySem L2
open Evl (Ex)
open Dat
theorem Tups.insU {H : Hp} {p C dx : Addr} {fs : List (Str × V)} {o : HO} (h : H p = some (.ins C dx fs)) : Tups H (L2.upd H p o) := fun a ys r => by
  rcases r with r | ⟨ob, r⟩
  · refine .inl ?_
    rw [upd_ne (fun z => by rw [z, h] at r; cases r)]
    exact r
  · refine .inr ⟨ob, ?_⟩
    rw [upd_ne (fun z => by rw [z, h] at r; cases r)]
    exact r
theorem Reps.int_map {K : PySem.W.Frag} {H : Hp} (ns : List Int) : Reps K H (ns.map V.int) ns := by
  induction ns with
  | nil => exact reps_nil
  | cons n ns ih => exact Reps.cons (rep_int n) ih
/-! ### what is walked as a list's items -/
section
variable {K : PySem.W.Frag} {α β : Type} [Dat α] [Dat β] {σ : L2.St} {G H : Hp} {te tl : TE} {ti : TI} {tt : TT} {i : Nat}
def EIt (K : PySem.W.Frag) {α : Type} [Dat α] (ti : TI) (σ : L2.St) (H : Hp) (xs : List α) : Prop := ∀ H1, Ex H H1 → ∀ R : It → Hp → Prop, (∀ l zs H2, Ex H1 H2 → SqL K H2 l zs → Reps K H2 zs xs → R (Itl K l) H2) → ti σ H1 R
theorem ei_list {xs : List α} (h : ER K tl σ H xs) : EIt K (iList K tl) σ H xs := fun H1 e R q => h H1 e _ fun v H2 e2 r => by
  obtain ⟨a, vs, rfl, s, r⟩ := Rep.list r
  exact ⟨a, rfl, ⟨vs, s⟩, q a vs H2 e2 s r⟩
theorem el_mapI {xs : List α} {f : α → β} [Flat β] (h : EIt K ti σ H xs) (he : ∀ x v H', x ∈ xs → Ex H H' → Rep K H' v x → ER K te ((wipe σ [i]).set i (some v)) H' (f x)) (hz : xs.length ≤ 100000) :
    EL K (tLc ti (gName i) tYes te [i]) σ H (xs.map f) := fun H0 e0 Q q => h H0 e0 _ fun a vs H1 e1 s r => by
  refine fun D hD => lc_list (K := K) (a := a) (xs := vs) (fun j H' => Ex H1 H' ∧ Own K H' D ((xs.take j).map f)) ⟨Evl.Ex.new hD, by simpa using Own.nil⟩ (fun j H' _ z => Evl.ex_l z.1 s) (fun j v H' hj z => ?_) (fun H' z => ?_)
  · obtain ⟨x, hx, rx⟩ := r.got hj
    have hlt : j < xs.length := (List.getElem?_eq_some_iff.mp hx).1
    refine ⟨wipe1 _, he x v H' (List.mem_of_getElem? hx) (e0.trans (e1.trans z.1)) (rx.mono z.1) H' (Ex.refl H') _ fun w H2 e2 rw' => ?_⟩
    obtain ⟨acc, h1, r1⟩ := (z.2.mono e2).ex
    refine ⟨acc, h1, Evl.sz_lt (by rw [r1.len, List.length_map, List.length_take]; omega), ex_mut (z.1.trans e2) hD, acc ++ [w], upd_same, ?_⟩
    rw [cut_upd, show xs.take (j + 1) = xs.take j ++ [x] by rw [List.take_succ, hx]; rfl, List.map_append]
    exact r1.append (Reps.cons (rw'.imm (Tups.cut h1)) reps_nil)
  · have e : xs.take vs.length = xs := by rw [r.len, List.take_length]
    rw [e] at z
    exact q D H' (fresh_back e1 hD) (e1.trans z.1) z.2
theorem el_idI {xs : List α} [Flat α] (h : EIt K ti σ H xs) (hi : i < σ.length) (hz : xs.length ≤ 100000) : EL K (tLc ti (gName i) tYes (tVar i) [i]) σ H xs := by
  have := el_mapI (i := i) (te := tVar i) (f := fun x : α => x) h (fun x v H' _ _ r => er_var (by
    rw [List.getElem?_set_self]
    show i < (σ.set i none).length
    rw [List.length_set]
    exact hi) r (Ex.refl _)) hz
  rwa [List.map_id'] at this
/-! ### raise C(e, ..), of values that stand for data -/
theorem mk_X1R {C : Addr} {f : Str} {x : α} {Q : XK} (h : ER K te σ H x) (k : ∀ v d H', H d = none → Ex H H' → Rep K H' v x → H' d = some (.xd [(f, v)]) → Q (.ref C) (some d) H') : tMkO C (spX1 K C f) [] (tCons te tNil) σ H Q :=
  h H (Ex.refl H) _ fun v H1 e1 r => mk_X1 (K := K) (te := tC v) (σ := σ) (H := H1) (v := v) ev_c fun d H' hd e' hx => k v d H' (fresh_back e1 hd) (e1.trans e') (r.mono e') hx
theorem mk_X2R {C : Addr} {f g : Str} {x : α} {y : β} {Q : XK} (h : ER K te σ H x) (h2 : ER K tl σ H y) (k : ∀ v u d H', H d = none → Ex H H' → Rep K H' v x → Rep K H' u y → H' d = some (.xd [(g, u), (f, v)]) → Q (.ref C) (some d) H') : tMkO C (spX2 K C f g) [] (tCons te (tCons tl tNil)) σ H Q :=
  h H (Ex.refl H) _ fun v H1 e1 r => h2 H1 e1 _ fun u H2 e2 r2 => mk_X2 (K := K) (te := tC v) (tu := tC u) (σ := σ) (H := H2) (v := v) (u := u) ev_c ev_c fun d H' hd e' hx => k v u d H' (fresh_back (e1.trans e2) hd) ((e1.trans e2).trans e') (r.mono (e2.trans e')) (r2.mono e') hx
/-- a field of a caught one -/
theorem er_xf {a C dd : Addr} {f : Str} {fs : List (Str × V)} {v : V} {x : α} (h : EV K te σ H (.ref a)) (hd : G dd = some (.xd fs)) (e : Ex G H) (hl : fs.lookup f = some v) (r : Rep K G v x) : ER K (tXf a (.ref C) (some dd) C f te) σ H x := fun H1 e1 Q q =>
  h H1 e1 _ fun H2 e2 => ⟨rfl, rfl, dd, fs, v, rfl, (e.trans (e1.trans e2)) _ _ hd, hl, q v H2 e2 (r.mono (e.trans (e1.trans e2)))⟩
theorem s_drop {D : Ends} (h : te σ H fun _ H' => D.nx σ H') : tDrop te D σ H := h
theorem s_mkS {C : Addr} {sp : Sp} {E : L2.St → XK} {xs : α} {Q : VK} (h : ER K te σ H xs) (k : ∀ v H1, Ex H H1 → Rep K H1 v xs → ∀ x dx, H1 x = none → H1 dx = none → dx ≠ x → sp [.ref x, v] (upd (upd H1 dx (.own x)) x (.ins C dx [])) (fun v H2 => v = .non ∧ Q (.ref x) H2) (E σ)) :
    tMakeS C sp E (tCons te tNil) σ H Q := h H (Ex.refl H) _ k
/-! ### isinstance of an own instance, of a caught error -/
theorem er_isiO {r C : Addr} {c : V} {cv : Value} {b : Bool} (h : EV K te σ H (.ref r)) (ty : ∀ H2, Ex H H2 → TyX K H2 (.ref r) (.ref C)) (cc : ClsV c cv) (hk : PySem.W.kitOne K (.ref C) cv = some b) :
    ER K (tCB (rIsi K) (tCons te (tCons (tC c) tNil))) σ H b := fun H1 e Q q =>
  h H1 e _ fun H2 e2 => ⟨.ref r, c, .ref C, cv, b, rfl, cc, ty H2 (e.trans e2), hk, q _ H2 e2 (rep_bool _)⟩
theorem er_isX {a C dd : Addr} {fs : List (Str × V)} {c : V} {cv : Value} {b : Bool} (h : EV K te σ H (.ref a)) (hd : G dd = some (.xd fs)) (e : Ex G H) (xc : ExcC K C) (hc : ∀ u, RelV c u → u = cv) (hk : PySem.W.kitOne K (.ref C) cv = some b) :
    ER K (tCB (rIsX K a (.ref C) (some dd)) (tCons te (tCons (tC c) tNil))) σ H b := fun H1 e1 Q q =>
  h H1 e1 _ fun H2 e2 => ⟨c, cv, b, C, dd, fs, rfl, rfl, xc, rfl, (e.trans (e1.trans e2)) _ _ hd, hc, hk, q _ H2 e2 (rep_bool _)⟩
end
end Z
set_option Elab.async false
set_option linter.all false
set_option maxRecDepth 100000
set_option maxHeartbeats 4000000
set_option autoImplicit false
namespace Z
open PySem PySem.Spec PyProof.Rows L2
open Sem (wp)
open AutoSeq1 (wpAny_loadPart')
/-! ### sorted(t), t a tuple of ints -/
section
variable {prog : Program} {w : World} {A : Around} {E : Value → Shared → Prop} {s : Shared}
theorem sorted_tup {l : Addr} {vs : List Value} {ltv : Value → Value → Bool} {Q : Value → Shared → Prop} (O : SrtO.Swo ltv) (hl : s.heap.IsTuple l vs.toArray) (hz : vs.length ≤ sizeLine)
    (hS : 2 ≤ vs.length → ∀ (h₁ : Heap) (a : Addr), h₁.get? a = some (seqObj "list" vs.toArray 0) → (∀ b o, s.heap.get? b = some o → b ≠ a ∧ h₁.get? b = some o) → SrtO.SortableO prog w A.in1.in1 { s with heap := h₁ } a vs ltv)
    (h : ∀ (out : List Value) (h1 h' : Heap), SrtO.Srtd ltv out → SrtO.Stb ltv out vs → (∀ b o, s.heap.get? b = some o → h1.get? b = some o) → (∀ b o, h1.get? b = some o → h'.get? b = some o) → (∃ e, h'.get? h1.objs.size = some (seqObj "list" out.toArray e)) → Q (.ref h1.objs.size) { s with heap := h' }) :
    wpAny (model prog w) A (call (.builtin "sorted") [.ref l]) Q E s := by
  obtain ⟨o, ho, hc, n, hd⟩ := hl
  refine Calls.call_function_entry kind_sorted plain_sorted entry_sorted (args_sorted1 _) ?_
  unfold Builtin.«sorted»
  refine wpAny_bind (m := checkCount "sorted" 1 1 _) (wpAny_pure ?_)
  refine wpAny_bind (wpAny_collect_seq l (.inr rfl) ho hc hd (fun h1 hk => ?_) (by rw [List.size_toArray]; exact hz))
  have e : vs.toArray.toList = vs := by simp
  rw [e]
  refine wpAny_bind (wpAny_newList ?_ hz)
  have hoL : (h1.push (seqObj "list" vs.toArray 0)).get? h1.objs.size = some (seqObj "list" vs.toArray 0) := Heap.get?_push_size _ rfl
  have keep : ∀ b o, s.heap.get? b = some o → b ≠ h1.objs.size ∧ (h1.push (seqObj "list" vs.toArray 0)).get? b = some o := fun b o q =>
    ⟨Nat.ne_of_lt (Heap.lt_size (hk _ _ q)), Heap.get?_push_of_some _ (hk _ _ q)⟩
  show wpAny _ _ _ _ _ { s with heap := h1.push (seqObj "list" vs.toArray 0) }
  refine wpAny_bind (wpAny_holding (wpAny_call_entry slot_list_sort ⟨_, hoL, rfl⟩ entry_list_sort (SrtO.list_sort_ord O hoL hz (fun h2 => hS h2 _ _ hoL keep) fun out hs hb => ⟨_, rfl, ?_⟩) (args_list_sort _)))
  refine wpAny_pure ⟨_, rfl, h out h1 _ hs hb hk (fun b o hq => ?_) (sortedHeap_at (vs := vs) (out := out.toArray) hoL)⟩
  show (sortedHeap (h1.push (seqObj "list" vs.toArray 0)) h1.objs.size vs out.toArray).get? b = some o
  rw [sortedHeap_old (Nat.ne_of_lt (Heap.lt_size hq)) (by rw [Heap.size_push]; exact Nat.lt_succ_of_lt (Heap.lt_size hq))]
  exact Heap.get?_push_of_some _ hq
end
def rSortedIT (K : PySem.W.Frag) : List V → Hp → VK → Prop := fun vs H Q => ∃ (a : Addr) (ns : List Int), vs = [V.ref a] ∧ SqT K H a (ns.map V.int) ∧
  ∀ (ns' : List Int) (p : Addr), ns'.Perm ns → ns'.Pairwise (· ≤ ·) → H p = none → Q (.ref p) (upd H p (.lst (ns'.map V.int)))
theorem cr_sortedIT {X : Cx} : CallR X (.builtin "sorted") (rSortedIT X.K) := by
  intro pins s σ H vs us Q I r h
  obtain ⟨a, ns, rfl, hs, q⟩ := h
  obtain ⟨its, rv, hT, hz⟩ := I.tuple hs
  rw [Vals.ref1 r]
  have hi := rv.ints
  refine sorted_tup SrtO.swo_int hT (by rw [← rv.length]; exact hz) (fun h2 h₁ a' _ _ => SrtO.ints_sortable hi h2) fun out h1' h' h1 h2 hk1 hk2 hp => ?_
  have I1 : Inv X pins σ H { s with heap := h1' } := I.kept (t' := s.toks) hk1
  obtain ⟨k1, k2, k3⟩ := SrtO.ints_out hi h1 h2
  obtain ⟨ep, hp⟩ := hp
  have hlen : ((out.map SrtO.iv).map V.int).length ≤ sizeLine := by
    rw [List.length_map, k2.length_eq]
    rw [List.length_map] at hz
    exact hz
  exact ⟨.ref _, upd H h1'.objs.size (.lst ((out.map SrtO.iv).map V.int)), I1.laid (t' := s.toks) hk2 (Nat.le_refl _) ⟨hlen, out, ep, vals_of_ints k1, hp⟩, rfl, q _ _ k2 k3 (I1.hok.fresh (Nat.le_refl _))⟩
/-! ### enumerate(t), t a tuple -/
theorem meets_enum_tup (l : Addr) (items : Array Value) (n : Nat) (dct : Option Addr) (sl : Array (Option Value)) :
    Meets (Builtin.«enumerate.__new__» ⟨[.type "enumerate", .ref l], []⟩) (fun _ R s => s.heap.get? l = some { cls := .type "tuple", dict := dct, data := .seq items n, slots := sl } ∧
      R (.ok (.ret (.ref (s.heap.push { cls := .type "tuple_iterator", data := .fields #[.ref l, .int 0 0] }).objs.size)))
        { s with heap := (s.heap.push { cls := .type "tuple_iterator", data := .fields #[.ref l, .int 0 0] }).push { cls := .type "enumerate", data := .fields #[.none, .bool false, .ref s.heap.objs.size, rawInt 0, .none, .none] } }) :=
  .of_wp fun prog w A R s h => by
    obtain ⟨hp, g, d, tk, os⟩ := s; obtain ⟨hl, h⟩ := h
    have hsub := sub_enumerate
    have hL : Heap.IsTuple (Shared.heap ⟨hp, g, d, tk, os⟩) l items := ⟨_, hl, rfl, n, rfl⟩
    wp_walk using wpAny_loadPart' hl
    refine wpAny_stack_any fun st => wpAny_pure ?_
    split
    · rename_i c _ _ _ _ _
      cases (c == Value.type "enumerate")
      · wp_walk using wpAny_loadPart' hl, wpAny_pyIter_tuple hL
        exact ⟨_, rfl, h⟩
      · wp_walk using wpAny_loadPart' hl, wpAny_pyIter_tuple hL
        exact ⟨_, rfl, h⟩
    · wp_walk using wpAny_loadPart' hl, wpAny_pyIter_tuple hL
      exact ⟨_, rfl, h⟩
section
variable {prog : Program} {w : World} {A : Around} {E : Value → Shared → Prop} {s : Shared}
theorem call_enum_tup {l : Addr} {items : Array Value} {Q : Value → Shared → Prop} (hL : s.heap.IsTuple l items)
    (h : ∀ h', IsEnum h' (s.heap.objs.size + 1) s.heap.objs.size 0 .none → h'.IsTupleIter s.heap.objs.size l 0 → (∀ b o, s.heap.get? b = some o → h'.get? b = some o) → Q (.ref (s.heap.objs.size + 1)) { s with heap := h' }) :
    wpAny (model prog w) A (call (.type "enumerate") [.ref l]) Q E s := by
  obtain ⟨⟨c, dct, dt, sl⟩, hl, hc, n, hd⟩ := hL
  replace hc : c = .type "tuple" := hc
  replace hd : dt = .seq items n := hd
  subst hc hd
  refine callType_new F.called_enumerate (by decide) (F.typeCall_enumerate_1 _) (F.newCall_enumerate_1 _) (fun obj => F.args_object_init_2 obj _) F.entry_enumerate_new
    (meets_enum_tup l items n dct sl) ⟨hl, ?_⟩
  have hz : (s.heap.push { cls := .type "tuple_iterator", data := .fields #[.ref l, .int 0 0] }).objs.size = s.heap.objs.size + 1 := Heap.size_push ..
  show _ ∧ _
  rw [hz]
  have he : IsEnum ((s.heap.push { cls := .type "tuple_iterator", data := .fields #[.ref l, .int 0 0] }).push
      { cls := .type "enumerate", data := .fields #[.none, .bool false, .ref s.heap.objs.size, rawInt 0, .none, .none] }) (s.heap.objs.size + 1) s.heap.objs.size 0 .none := by
    have := Heap.get?_push_size (s.heap.push { cls := .type "tuple_iterator", data := .fields #[.ref l, .int 0 0] })
      (o := { cls := .type "enumerate", data := .fields #[.none, .bool false, .ref s.heap.objs.size, rawInt 0, .none, .none] }) rfl
    rw [hz] at this; exact this
  exact ⟨⟨_, he, rfl⟩, h _ he ⟨_, Heap.get?_push_of_some _ (Heap.get?_push_size _ rfl), rfl, rfl⟩ fun b o x => Heap.get?_push_of_some _ (Heap.get?_push_of_some _ x)⟩
end
/-- the tuple at a, each item in a new pair -/
def IteT (K : PySem.W.Frag) (a : Addr) : It :=
  ⟨fun i H => ∃ (xs : List V) (x : V), SqT K H a xs ∧ xs[i]? = some x, fun i H v H' => ∃ T x, v = .ref T ∧ H T = none ∧ H' = upd H T (.tup [.int (i : Nat), x]) ∧ ∀ xs, SqT K H a xs → xs[i]? = some x, fun i H => ∃ xs : List V, SqT K H a xs ∧ xs.length = i⟩
theorem tup_inj {X : Cx} {pins : List (Addr × Obj)} {s : Shared} {σ : L2.St} {H : Hp} (I : Inv X pins σ H s) {a : Addr} {xs ys : List V} (h : SqT X.K H a xs) (h' : SqT X.K H a ys) : xs = ys := I.tuple_inj h h'
theorem apart1 {h : Heap} {a it : Addr} {i : Nat} {xs : Array Value} (p : h.IsTuple a xs) (q : h.IsTupleIter it a i) : a ≠ it := fun z => by
  obtain ⟨o, ho, hc, _⟩ := p
  obtain ⟨o', ho', hc', _⟩ := q
  rw [z, ho'] at ho
  cases ho
  rw [hc'] at hc
  injection hc with hc
  exact absurd hc (by decide)
theorem apart2 {h : Heap} {a e it : Addr} {c : Int} {old : Value} {xs : Array Value} (q : IsEnum h e it c old) (p : h.IsTuple a xs) : e ≠ a := fun z => by
  obtain ⟨o, ho, hc, _⟩ := p
  have q : h.get? e = _ := q
  rw [z, ho] at q
  cases q
  injection hc with hc
  exact absurd hc (by decide)
theorem turn_enumT {P : Program} {w : World} {K : PySem.W.Frag} {elts : List Expr} {kk : Nat} {tpos : Pos} (a e it : Addr) :
    Turn P w K (.Tuple elts kk tpos) (IteT K a) [e, it] e (fun i h => (∃ old, IsEnum h e it ((i : Nat) : Int) old) ∧ h.IsTupleIter it a i ∧ e ≠ it) where
  mem := by simp
  obj := fun i h st b hb => by
    obtain ⟨⟨old, he⟩, ⟨o, ho, hc, hd⟩, _⟩ := st
    rcases List.mem_cons.mp hb with z | hb
    · exact z ▸ ⟨_, he, fun v q => nomatch q⟩
    · rcases List.mem_cons.mp hb with z | hb
      · exact z ▸ ⟨o, ho, fun v q => by rw [hd] at q; cases q⟩
      · cases hb
  keep := fun i h h' st k => let ⟨⟨old, he⟩, hi, hne⟩ := st; ⟨⟨old, k e (List.mem_cons_self ..) _ he⟩, hi.at fun o q => k it (List.mem_cons_of_mem _ (List.mem_cons_self ..)) o q, hne⟩
  item := by
    intro X hP hw hK hc i pins s σ H E I hf st hg
    subst hP hw hK
    obtain ⟨⟨old, he⟩, hit, hne⟩ := st
    obtain ⟨xs, x, hq, hx⟩ := hg
    obtain ⟨its, rv, p, hz⟩ := I.tuple hq
    obtain ⟨u, hu, ru⟩ := rv.get hx
    have hie : it ∈ [e, it] := List.mem_cons_of_mem _ (List.mem_cons_self ..)
    have hai : a ≠ it := apart1 p hit
    have hae : e ≠ a := apart2 he p
    have hel : e < s.heap.objs.size := Heap.lt_size he
    have hil : it < s.heap.objs.size := by obtain ⟨_, q, _⟩ := hit; exact Heap.lt_size q
    have hlt : i < its.toArray.size := by
      rw [List.size_toArray]
      exact (List.getElem?_eq_some_iff.mp hu).1
    refine wpAny_pyNext_enum_itemD (Draws.tuple (A := X.A.in1) (show X.A.in1.handled = none from I.ok.hd hc) it a hai its.toArray) he ⟨hit, p⟩ hlt hne (by
      intro z
      rcases List.mem_cons.mp z with z | z
      · exact hne z
      · rcases List.mem_cons.mp z with z | z
        · exact hae z
        · cases z) fun y h' tk hy ho hit' hT hsz hk => ?_
    obtain rfl : y = u := by
      have : its[i]? = some y := by simpa using hy
      rw [hu] at this
      exact (Option.some.inj this).symm
    refine ⟨_, rfl, wpAny_letOwnedTupleGo_enum (s := { s with heap := h', toks := tk + 1 }) ho fun h'' he' sb => ?_⟩
    have hT2 : h''.get? s.heap.objs.size = some { cls := .type "tuple", data := .seq #[.int i tk, y] } := (sb.2 _ (Nat.ne_of_gt hel)).trans hT
    have new : ObjOk X.prog X.w (upd H s.heap.objs.size (.tup [.int (i : Nat), x])) h'' s.heap.objs.size (.tup [.int (i : Nat), x]) :=
      ⟨by show 2 ≤ sizeLine; decide, [.int i tk, y], .cons ⟨_, rfl⟩ (.cons ru .nil), ⟨_, hT2, rfl, _, rfl⟩⟩
    have I1 : Inv X pins σ (upd H s.heap.objs.size (.tup [.int (i : Nat), x])) { s with heap := h'', toks := tk + 1 } :=
      I.turnedNew (ch := [e, it]) (fun b ob hb q => (sb.2 b (fun z => hb (by rw [z]; exact List.mem_cons_self ..))).trans (hk b ob (fun z => hb (by rw [z]; exact List.mem_cons_self ..)) (fun z => hb (by rw [z]; exact hie)) q)) hf (Nat.le_refl _) new
    refine ⟨.ref s.heap.objs.size, _, I1, rfl, ⟨_, x, rfl, I.hok.fresh (Nat.le_refl _), rfl, fun ys hy => by rw [I.tuple_inj hy hq]; exact hx⟩, ⟨⟨y, ?_⟩, hit'.1.at fun o q => (sb.2 it (Ne.symm hne)).trans q, hne⟩, fun b hb => ?_⟩
    · rw [show ((i + 1 : Nat) : Int) = (i : Int) + 1 by omega]
      exact he'
    · have hb' : b < s.heap.objs.size := by
        rcases List.mem_cons.mp hb with z | z
        · exact z ▸ hel
        · rcases List.mem_cons.mp z with z | z
          · exact z ▸ hil
          · cases z
      rw [upd_ne (Nat.ne_of_lt hb')]
      exact (hf b hb).1
  done := by
    intro X hP hw hK hc i pins s σ H E I hf st hg
    subst hP hw hK
    obtain ⟨⟨old, he⟩, hit, hne⟩ := st
    obtain ⟨xs, hq, hx⟩ := hg
    obtain ⟨its, rv, p, hz⟩ := I.tuple hq
    have hie : it ∈ [e, it] := List.mem_cons_of_mem _ (List.mem_cons_self ..)
    obtain ⟨f0, f1, f2, f3, f4, f5⟩ := hf it hie
    have hai : a ≠ it := apart1 p hit
    have hl := rv.length
    have hit : s.heap.IsTupleIter it a its.toArray.size := by
      rw [List.size_toArray, ← hl, hx]
      exact hit
    exact wpAny_pyNext_enum_endD (Draws.tuple (A := X.A.in1) (show X.A.in1.handled = none from I.ok.hd hc) it a hai its.toArray) he ⟨hit, p⟩ fun h' eb => ⟨rfl, I.turned (t' := s.toks) (fun b o hb q => eb b o hb q) f0 f1 f3 f4 f5⟩
  self := fun A i s Q E st h => let ⟨⟨_, he⟩, _⟩ := st; wpAny_pyIter_enum he h
def iEnumT (K : PySem.W.Frag) (ta : TA) : TI := fun σ H R => ta σ H fun vs H1 => ∃ a xs, vs = [.ref a] ∧ SqT K H1 a xs ∧ R (IteT K a) H1
theorem pi_enumT {X : Cx} {e : Expr} {ta : TA} {p pos tpos : Pos} {elts : List Expr} {kk : Nat} (hg : Gl X "enumerate") (hm : X.mg "enumerate" = none) (ha : PA X [e] ta) (hs : starEach [e] X.env = [(false, eval e X.env)] := by rfl) :
    PI X (.Tuple elts kk tpos) (.Call (.Name "enumerate" p) [e] [] pos) (iEnumT X.K ta) := by
  refine ⟨fun pins s σ H R I h => ?_⟩
  refine Call_ (ld_blt I hg hm boot_enumerate (PyProof.Rows.callWith_type1 (thn (ha.run pos pins s σ H _ I h) fun us s1 ⟨vs, H1, I1, r1, q1⟩ => ?_) hs rfl))
  obtain ⟨a, xs, rfl, hq, q⟩ := q1
  cases r1 with
  | cons r rr =>
    cases rr
    cases r
    obtain ⟨its, rv, p', hz⟩ := I1.tuple hq
    refine call_enum_tup p' fun h' he hit hk => wpAny_pyIter_enum he ?_
    have I2 : Inv X pins σ H1 { s1 with heap := h' } := I1.kept (t' := s1.toks) hk
    refine ⟨s1.heap.objs.size + 1, [s1.heap.objs.size + 1, s1.heap.objs.size], _, _, H1, rfl, I2, turn_enumT a (s1.heap.objs.size + 1) s1.heap.objs.size, ⟨⟨.none, he⟩, hit, Nat.succ_ne_self _⟩, fun b hb => ?_, q⟩
    have hle : s1.heap.objs.size ≤ b := by
      rcases List.mem_cons.mp hb with z | z
      · rw [z]; exact Nat.le_succ _
      · rcases List.mem_cons.mp z with z | z
        · rw [z]; exact Nat.le_refl _
        · cases z
    exact I1.fpOk hle (I1.hok.fresh hle)
end Z
set_option Elab.async false
set_option linter.all false
set_option maxRecDepth 100000
set_option maxHeartbeats 2000000
set_option autoImplicit false
namespace Z
open PySem L2
open Evl (Ex)
open Dat
/-! ### sorted lists by a code -/
def srtK {α : Type} (f : α → Int) (xs : List α) : List α := xs.mergeSort fun a b => decide (f a ≤ f b)
section
variable {α : Type} {f : α → Int} {xs ys : List α}
theorem srtK_perm : (srtK f xs).Perm xs := List.mergeSort_perm _ _
theorem srtK_pw : (srtK f xs).Pairwise fun a b => f a ≤ f b := by
  have h := List.pairwise_mergeSort (le := fun a b : α => decide (f a ≤ f b)) (fun a b c h1 h2 => by
    simp at h1 h2 ⊢
    omega) (fun a b => by
    simp
    omega) xs
  exact h.imp fun h => by simpa using h
theorem srtK_uniq (hp : ys.Perm xs) (hs : ys.Pairwise fun a b => f a ≤ f b) (inj : ∀ a b, a ∈ xs → b ∈ xs → f a = f b → a = b) : ys = srtK f xs :=
  List.Perm.eq_of_pairwise (le := fun a b => f a ≤ f b) (fun a b ha hb h1 h2 => inj a b (hp.mem_iff.mp ha) (srtK_perm.mem_iff.mp hb) (by omega)) hs srtK_pw (hp.trans srtK_perm.symm)
theorem srtK_mem {x : α} : x ∈ srtK f xs ↔ x ∈ xs := srtK_perm.mem_iff
theorem srtK_len : (srtK f xs).length = xs.length := srtK_perm.length_eq
/-- two sorted lists with no item twice and the same items -/
theorem srt_set (inj : ∀ a b, a ∈ xs → b ∈ xs → f a = f b → a = b) (h1 : xs.Pairwise fun a b => f a ≤ f b) (h2 : ys.Pairwise fun a b => f a ≤ f b) (n1 : xs.Nodup) (n2 : ys.Nodup) (hm : ∀ x, x ∈ xs ↔ x ∈ ys) : xs = ys :=
  List.Perm.eq_of_pairwise (le := fun a b => f a ≤ f b) (fun a b ha hb h1 h2 => inj a b ha ((hm b).mpr hb) (by omega)) h1 h2 ((List.perm_ext_iff_of_nodup n1 n2).mpr hm)
end
theorem code_inj {B : Int} : ∀ {xs ys : List Int}, xs.length = ys.length → TS.Bd B xs → TS.Bd B ys → TS.code B xs = TS.code B ys → xs = ys
  | [], [], _, _, _, _ => rfl
  | x :: xs, y :: ys, hl, hx, hy, h => by
    have hl' : xs.length = ys.length := Nat.succ.inj hl
    have bx : TS.Bd B xs := fun m hm => hx m (List.mem_cons_of_mem _ hm)
    have by' : TS.Bd B ys := fun m hm => hy m (List.mem_cons_of_mem _ hm)
    rcases Int.lt_trichotomy x y with c | c | c
    · have := TS.code_lt hl' bx by' c
      omega
    · subst c
      have e : TS.code B xs = TS.code B ys := by
        have a := @TS.code_same B x xs ys hl'
        have b := @TS.code_same B x ys xs hl'.symm
        rcases Int.lt_trichotomy (TS.code B xs) (TS.code B ys) with d | d | d
        · have := a.mpr d; omega
        · exact d
        · have := b.mpr d; omega
      rw [code_inj hl' bx by' e]
    · have := TS.code_lt hl'.symm by' bx c
      omega
section
variable {K : PySem.W.Frag} {α β : Type} [Dat α] [Dat β] {σ : L2.St} {G H H' : Hp} {te ta tb tu : TE} {tt : TT} {i j : Int}
theorem Reps.ints' {vs : List V} {xs : List Int} (r : Reps K H vs xs) : vs = xs.map V.int := Reps.ints r
/-- a list of values in another order stands for the data in that order -/
theorem Reps.perm {vs ws : List V} (p : ws.Perm vs) : ∀ {xs : List α}, Reps K H vs xs → ∃ ys, ys.Perm xs ∧ Reps K H ws ys := by
  induction p with
  | nil => exact fun {xs} r => ⟨xs, List.Perm.refl _, r⟩
  | cons v p ih =>
    intro xs r
    obtain ⟨x, xs', e, h1, h2⟩ : ∃ x xs', xs = x :: xs' ∧ Rep K H v x ∧ Reps K H _ xs' := by
      cases xs with
      | nil => cases Reps.len r
      | cons x xs' =>
        obtain ⟨_, _, e, h1, h2⟩ := Reps.inv r
        cases e
        exact ⟨x, xs', rfl, h1, h2⟩
    subst e
    obtain ⟨ys, hy, ry⟩ := ih h2
    exact ⟨x :: ys, hy.cons x, Reps.cons h1 ry⟩
  | swap u v ws =>
    intro xs r
    cases xs with
    | nil => cases Reps.len r
    | cons x xs =>
      cases xs with
      | nil => cases Nat.succ.inj (Reps.len r)
      | cons y xs =>
        obtain ⟨_, _, e, h1, h2⟩ := Reps.inv r
        cases e
        obtain ⟨_, _, e, h3, h4⟩ := Reps.inv h2
        cases e
        exact ⟨y :: x :: xs, List.Perm.swap x y xs, Reps.cons h3 (Reps.cons h1 h4)⟩
  | trans p q ih1 ih2 =>
    intro xs r
    obtain ⟨ys, hy, ry⟩ := ih2 r
    obtain ⟨zs, hz, rz⟩ := ih1 ry
    exact ⟨zs, hz.trans hy, rz⟩
theorem el_sortI {xs : List Int} (h : ER K te σ H xs) : EL K (tCB (rSortedI K) (tCons te tNil)) σ H (srtK (fun x : Int => x) xs) := fun H1 e Q q => h H1 e _ fun v H2 e2 r => by
  obtain ⟨a, vs, rfl, s, r⟩ := Rep.list r
  obtain rfl := Reps.ints r
  refine ⟨a, xs, rfl, s, fun ns p hp hs hn => ?_⟩
  obtain rfl : ns = srtK (fun x : Int => x) xs := srtK_uniq hp hs fun a b _ _ h => h
  exact q p _ (fresh_back e2 hn) (e2.trans (Evl.Ex.new hn)) ⟨_, upd_same, Reps.int_map _⟩
theorem el_sortIT {xs : Tp Int} (h : ER K te σ H xs) : EL K (tCB (rSortedIT K) (tCons te tNil)) σ H (srtK (fun x : Int => x) (show List Int from xs)) := fun H1 e Q q => h H1 e _ fun v H2 e2 r => by
  obtain ⟨a, vs, rfl, s, r⟩ := Rep.tup r
  obtain rfl := Reps.ints r
  refine ⟨a, xs, rfl, s, fun ns p hp hs hn => ?_⟩
  obtain rfl : ns = srtK (fun x : Int => x) (show List Int from xs) := srtK_uniq hp hs fun a b _ _ h => h
  exact q p _ (fresh_back e2 hn) (e2.trans (Evl.Ex.new hn)) ⟨_, upd_same, Reps.int_map _⟩
def codeT (B : Int) (t : Tp Int) : Int := TS.code B (show List Int from t)
/-- rows of d ints in [0, B) -/
def Rows (d : Nat) (B : Int) (xs : List (Tp Int)) : Prop := ∀ t : Tp Int, t ∈ xs → List.length t = d ∧ TS.Bd B (show List Int from t)
theorem Rows.inj {d : Nat} {B : Int} {xs : List (Tp Int)} (h : Rows d B xs) : ∀ a b : Tp Int, a ∈ xs → b ∈ xs → codeT B a = codeT B b → a = b := fun a b ha hb e =>
  code_inj ((h a ha).1.trans (h b hb).1.symm) (h a ha).2 (h b hb).2 e
theorem tupI_rep {v : V} {t : Tp Int} (r : Rep K H v t) : TupI K H v (show List Int from t) := by
  obtain ⟨a, vs, rfl, s, r⟩ := Rep.tup r
  obtain rfl := Reps.ints r
  exact ⟨a, rfl, s⟩
theorem el_sortU {d : Nat} {B : Int} {xs : List (Tp Int)} (h : ER K te σ H xs) (hl : xs.length < 64) (hr : Rows d B xs) : EL K (tCB (rSortU K d B) (tCons te tNil)) σ H (srtK (codeT B) xs) := fun H1 e Q q => h H1 e _ fun v H2 e2 r => by
  obtain ⟨a, vs, rfl, s, r⟩ := Rep.list r
  refine ⟨a, vs, rfl, s, by rw [r.len]; exact hl, fun v hv => ?_, fun ws p hp hs hn => ?_⟩
  · obtain ⟨k, hk⟩ := List.getElem?_of_mem hv
    obtain ⟨t, ht, rt⟩ := r.got hk
    have hm := hr t (List.mem_of_getElem? ht)
    exact ⟨_, tupI_rep rt, hm.1, hm.2⟩
  · obtain ⟨ys, hy, ry⟩ := Reps.perm hp r
    have e : ys = srtK (codeT B) xs := by
      refine srtK_uniq hy ?_ hr.inj
      rw [List.pairwise_iff_getElem] at hs ⊢
      intro i j hi hj hij
      have li := ry.len
      obtain ⟨v1, h1, r1⟩ := ry.get (List.getElem?_eq_getElem hi)
      obtain ⟨v2, h2, r2⟩ := ry.get (List.getElem?_eq_getElem hj)
      obtain ⟨_, e1⟩ := List.getElem?_eq_some_iff.mp h1
      obtain ⟨_, e2⟩ := List.getElem?_eq_some_iff.mp h2
      have := hs i j (by omega) (by omega) hij
      rw [e1, e2] at this
      exact this _ _ (tupI_rep r1) (tupI_rep r2)
    subst e
    exact q p _ (fresh_back e2 hn) (e2.trans (Evl.Ex.new hn)) ⟨ws, upd_same, by rw [cut_updn hn]; exact ry⟩
/-! ### any, all, min, max -/
theorem Reps.bls : ∀ {vs : List V} {xs : List Bool}, Reps K H vs xs → vs = xs.map V.bl
  | [], [], _ => rfl
  | v :: vs, [], r => by cases Reps.len r
  | [], x :: xs, r => by cases Reps.len r
  | v :: vs, x :: xs, r => by
    obtain ⟨_, _, e, h1, h2⟩ := Reps.inv r
    cases e
    rw [Rep.bool h1, Reps.bls h2]
    rfl
theorem er_all {bs : List Bool} (h : ER K te σ H bs) : ER K (tCB (rAll K) (tCons te tNil)) σ H (bs.all id) := fun H1 e Q q => h H1 e _ fun v H2 e2 r => by
  obtain ⟨a, vs, rfl, s, r⟩ := Rep.list r
  obtain rfl := Reps.bls r
  exact ⟨a, bs, rfl, s, q _ H2 e2 (rep_bool _)⟩
theorem er_any {bs : List Bool} (h : ER K te σ H bs) : ER K (tCB (rAny K) (tCons te tNil)) σ H (bs.any id) := fun H1 e Q q => h H1 e _ fun v H2 e2 r => by
  obtain ⟨a, vs, rfl, s, r⟩ := Rep.list r
  obtain rfl := Reps.bls r
  exact ⟨a, bs, rfl, s, q _ H2 e2 (rep_bool _)⟩
theorem er_min2 (ha : ER K ta σ H i) (hb : ER K tb σ H j) : ER K (tCB (fun xs H Q => ∃ i j, xs = [.int i, .int j] ∧ Q (.int (if j < i then j else i)) H) (tCons ta (tCons tb tNil))) σ H (min i j) := fun H1 e Q q =>
  ha.evI H1 e _ fun H2 e2 => hb.evI H2 (e.trans e2) _ fun H3 e3 => ⟨i, j, rfl, by
    have : (if j < i then j else i) = min i j := by
      split <;> omega
    rw [this]
    exact q _ H3 (e2.trans e3) (rep_int _)⟩
theorem er_max2 (ha : ER K ta σ H i) (hb : ER K tb σ H j) : ER K (tCB (fun xs H Q => ∃ i j, xs = [.int i, .int j] ∧ Q (.int (if j > i then j else i)) H) (tCons ta (tCons tb tNil))) σ H (max i j) := fun H1 e Q q =>
  ha.evI H1 e _ fun H2 e2 => hb.evI H2 (e.trans e2) _ fun H3 e3 => ⟨i, j, rfl, by
    have : (if j > i then j else i) = max i j := by
      split <;> omega
    rw [this]
    exact q _ H3 (e2.trans e3) (rep_int _)⟩
/-! ### x in xs, of data -/
theorem any_mem {x : α} {xs : List α} [DecidableEq α] [DatEq α] : ((xs.map enc).any fun z => PyData.eqv z (enc x)) = decide (x ∈ xs) := by
  induction xs with
  | nil => rfl
  | cons y ys ih =>
    rw [List.map_cons, List.any_cons, ih, DatEq.eqv]
    by_cases h : y = x
    · subst h
      simp
    · have h' : ¬ x = y := fun z => h z.symm
      simp [h, h']
theorem er_inD {x : α} {xs : List α} [DecidableEq α] [DatEq α] {n : Nat} [Deep α n] (ha : ER K ta σ H x) (hb : ER K tb σ H xs) (hn : n < 64 := by decide) : ER K (tOp (rInD K) ta tb) σ H (decide (x ∈ xs)) := fun H1 e Q q =>
  ha H1 e _ fun v H2 e2 r2 => hb H2 (e.trans e2) _ fun w H3 e3 r3 => ⟨enc x, xs.map enc, r2.mono e3, r3, by
      unfold SeqAt.shaped; rw [DatEq.lay]; exact decide_eq_true (Nat.le_trans (Deep.dep x) (Nat.le_of_lt hn)), by
      show SeqAt.shaped (enc xs) = true
      unfold SeqAt.shaped
      rw [DatEq.lay]
      exact decide_eq_true (Nat.le_trans (Deep.dep (n := n + 1) xs) hn), by rw [any_mem]; exact q _ H3 (e2.trans e3) (rep_bool _)⟩
theorem er_notInD {x : α} {xs : List α} [DecidableEq α] [DatEq α] {n : Nat} [Deep α n] (ha : ER K ta σ H x) (hb : ER K tb σ H xs) (hn : n < 64 := by decide) : ER K (tOp (rNotInD K) ta tb) σ H (!decide (x ∈ xs)) := fun H1 e Q q =>
  ha H1 e _ fun v H2 e2 r2 => hb H2 (e.trans e2) _ fun w H3 e3 r3 => ⟨enc x, xs.map enc, r2.mono e3, r3, by
      unfold SeqAt.shaped; rw [DatEq.lay]; exact decide_eq_true (Nat.le_trans (Deep.dep x) (Nat.le_of_lt hn)), by
      show SeqAt.shaped (enc xs) = true
      unfold SeqAt.shaped
      rw [DatEq.lay]
      exact decide_eq_true (Nat.le_trans (Deep.dep (n := n + 1) xs) hn), by rw [any_mem]; exact q _ H3 (e2.trans e3) (rep_bool _)⟩
/-- x in xs of flat things: ints -/
theorem flat_ints (xs : List Int) : (xs.map V.int).all flatV = true := by
  induction xs with
  | nil => rfl
  | cons x xs ih => rw [List.map_cons, List.all_cons, ih]; rfl
theorem inV_ints (x : Int) (xs : List Int) : inV (.int x) (xs.map V.int) = decide (x ∈ xs) := by
  induction xs with
  | nil => rfl
  | cons y ys ih =>
    unfold inV at ih ⊢
    rw [List.map_cons, List.any_cons, ih]
    show ((y == x) || _) = _
    by_cases h : y = x
    · subst h
      simp
    · have h' : ¬ x = y := fun z => h z.symm
      simp [h, h']
theorem er_inI {x : Int} {xs : List Int} (ha : ER K ta σ H x) (hb : ER K tb σ H xs) : ER K (tOp (rIn K false) ta tb) σ H (decide (x ∈ xs)) := fun H1 e Q q => ha.evI H1 e _ fun H2 e2 => hb H2 (e.trans e2) _ fun w H3 e3 r => by
  obtain ⟨p, vs, rfl, s, r⟩ := Rep.list r
  obtain rfl := Reps.ints r
  refine ⟨p, _, rfl, .inl s, rfl, flat_ints xs, ?_⟩
  show Q (.bl (inV _ _)) H3
  rw [inV_ints]
  exact q _ H3 (e2.trans e3) (rep_bool _)
theorem er_notInI {x : Int} {xs : List Int} (ha : ER K ta σ H x) (hb : ER K tb σ H xs) : ER K (tOp (rIn K true) ta tb) σ H (!decide (x ∈ xs)) := fun H1 e Q q => ha.evI H1 e _ fun H2 e2 => hb H2 (e.trans e2) _ fun w H3 e3 r => by
  obtain ⟨p, vs, rfl, s, r⟩ := Rep.list r
  obtain rfl := Reps.ints r
  refine ⟨p, _, rfl, .inl s, rfl, flat_ints xs, ?_⟩
  show Q (.bl (!inV _ _)) H3
  rw [inV_ints]
  exact q _ H3 (e2.trans e3) (rep_bool _)
/-! ### list(range(n)) -/
theorem el_listRg {n : Int} (h : ER K te σ H n) (h0 : n ≤ 100000) (h1 : -100000 ≤ n) : EL K (tLstRg (tRg1 te)) σ H ((List.range n.toNat).map fun (k : Nat) => (k : Int)) := fun H1 e Q q =>
  h.evI H1 e _ fun H2 e2 => ⟨n, rfl, ⟨by omega, by omega, by omega, by omega, by omega⟩, fun p hp => q p _ (fresh_back e2 hp) (e2.trans (Evl.Ex.new hp)) ⟨_, upd_same, by
    rw [cut_updn hp]
    have e : rgV 0 n = ((List.range n.toNat).map fun (k : Nat) => (k : Int)).map V.int := by
      unfold rgV
      rw [List.map_map, Int.sub_zero]
      exact List.map_congr_left fun k _ => by
        show V.int (0 + (k : Int)) = V.int (k : Int)
        rw [Int.zero_add]
    rw [e]
    exact Reps.int_map _⟩⟩
/-! ### a, b = t -/
theorem g_pair {t : Tp Int} {v : V} {a b : Int} {m n : Nat} {Q : L2.St → Hp → Prop} (r : Rep K H v t) (ht : (show List Int from t) = [a, b]) (q : Q ((σ.set m (some (.int a))).set n (some (.int b))) H) : gTup K 2 (gCons (gName m) (gCons (gName n) gNil)) v σ H Q := by
  obtain ⟨p, vs, rfl, s, r⟩ := Rep.tup r
  obtain rfl := Reps.ints r
  have e : List.map V.int (show List Int from t) = [.int a, .int b] := by rw [ht]; rfl
  exact ⟨p, _, rfl, s, by show (List.map V.int (show List Int from t)).length = 2; rw [e]; rfl, _, _, e, _, _, rfl, rfl, q⟩
/-! ### for i, x in enumerate(t), t a tuple -/
theorem s_enumT {xs : Tp α} {m n : Nat} {tb : TS} {D : Ends} (h : ER K te σ H xs) (k : ∀ a vs H1, Ex H H1 → SqT K H1 a vs → Reps K H1 vs (α := α) xs → ∃ (G : Hp) (J : Nat → L2.St → Hp → Prop), Ex G H1 ∧ SqT K G a vs ∧ Reps K G vs (α := α) xs ∧ J 0 σ H1 ∧
      (∀ i x w σ' H' H'', (show List α from xs)[i]? = some x → Ex G H' → Ex H' H'' → Rep K G w x → J i σ' H' → tb { D with nx := fun σ3 H3 => Ex G H3 ∧ J (i + 1) σ3 H3, ct := fun σ3 H3 => Ex G H3 ∧ J (i + 1) σ3 H3, bk := D.nx } ((σ'.set m (some (.int (i : Nat)))).set n (some w)) H'') ∧
      (∀ σ' H', Ex G H' → J (List.length xs) σ' H' → D.nx σ' H')) : tFor (iEnumT K (tCons te tNil)) (gTup K 2 (gCons (gName m) (gCons (gName n) gNil))) tb D σ H := h H (Ex.refl H) _ fun v H1 e1 r => by
  obtain ⟨a, vs, rfl, s, r⟩ := Rep.tup r
  obtain ⟨G, J, eG, sG, rG, j0, js, jd⟩ := k a vs H1 e1 s r
  have hl := rG.len
  refine ⟨a, vs, rfl, s, fun i k' σ' H' => k' = List.length xs - i ∧ i ≤ List.length xs ∧ Ex G H' ∧ J i σ' H', ⟨_, rfl, Nat.zero_le _, eG, j0⟩, ?_⟩
  rintro i k' σ' H' ⟨rfl, hi, eH, j⟩
  have q := Evl.ex_t eH sG
  by_cases hlt : i < List.length xs
  · refine .inr ⟨⟨vs, vs[i]'(by omega), q, by simp [hl, hlt]⟩, fun σ3 H3 => Ex G H3 ∧ J (i + 1) σ3 H3, fun σ3 H3 z => ⟨_, by omega, rfl, hlt, z.1, z.2⟩, ?_⟩
    rintro y H2 ⟨T, x, rfl, hT, rfl, hx⟩
    obtain ⟨z, hz, rz⟩ := rG.got (hx vs q)
    have eT : Ex H' (upd H' T (.tup [.int (i : Nat), x])) := Evl.Ex.new hT
    exact ⟨T, _, rfl, SqT.of upd_same, rfl, _, _, rfl, _, _, rfl, rfl, js i z x σ' H' _ hz eH eT rz j⟩
  · have e : i = List.length xs := by omega
    subst e
    exact .inl ⟨⟨vs, q, by omega⟩, jd σ' H' eH j⟩
theorem q_enumT {xs : Tp α} {m n : Nat} {tb u : TS} {D : Ends} (h : ER K te σ H xs) (k : ∀ a vs H1, Ex H H1 → SqT K H1 a vs → Reps K H1 vs (α := α) xs → ∃ (G : Hp) (J : Nat → L2.St → Hp → Prop), Ex G H1 ∧ SqT K G a vs ∧ Reps K G vs (α := α) xs ∧ J 0 σ H1 ∧
      (∀ i x w σ' H' H'', (show List α from xs)[i]? = some x → Ex G H' → Ex H' H'' → Rep K G w x → J i σ' H' → tb { D with nx := fun σ3 H3 => Ex G H3 ∧ J (i + 1) σ3 H3, ct := fun σ3 H3 => Ex G H3 ∧ J (i + 1) σ3 H3, bk := u D } ((σ'.set m (some (.int (i : Nat)))).set n (some w)) H'') ∧
      (∀ σ' H', Ex G H' → J (List.length xs) σ' H' → u D σ' H')) : tSeq (tFor (iEnumT K (tCons te tNil)) (gTup K 2 (gCons (gName m) (gCons (gName n) gNil))) tb) u D σ H := s_enumT (D := { D with nx := u D }) h k
theorem s_enumTV {xs : Tp α} {m n c : Nat} {v : V} {tb : TS} {D : Ends} (hσ : σ[c]? = some (some v)) (r : Rep K G v xs) (e : Ex G H) (J : Nat → L2.St → Hp → Prop) (j0 : J 0 σ H)
    (js : ∀ i x w σ' H' H'', (show List α from xs)[i]? = some x → Ex G H' → Ex H' H'' → Rep K G w x → J i σ' H' → tb { D with nx := fun σ3 H3 => Ex G H3 ∧ J (i + 1) σ3 H3, ct := fun σ3 H3 => Ex G H3 ∧ J (i + 1) σ3 H3, bk := D.nx } ((σ'.set m (some (.int (i : Nat)))).set n (some w)) H'')
    (jd : ∀ σ' H', Ex G H' → J (List.length xs) σ' H' → D.nx σ' H') : tFor (iEnumT K (tCons (tVar c) tNil)) (gTup K 2 (gCons (gName m) (gCons (gName n) gNil))) tb D σ H := by
  obtain ⟨a, vs, rfl, s, rG⟩ := Rep.tup r
  have hl := rG.len
  refine ⟨_, hσ, a, vs, rfl, Evl.ex_t e s, fun i k' σ' H' => k' = List.length xs - i ∧ i ≤ List.length xs ∧ Ex G H' ∧ J i σ' H', ⟨_, rfl, Nat.zero_le _, e, j0⟩, ?_⟩
  rintro i k' σ' H' ⟨rfl, hi, eH, j⟩
  have q := Evl.ex_t eH s
  by_cases hlt : i < List.length xs
  · refine .inr ⟨⟨vs, vs[i]'(by omega), q, by simp [hl, hlt]⟩, fun σ3 H3 => Ex G H3 ∧ J (i + 1) σ3 H3, fun σ3 H3 z => ⟨_, by omega, rfl, hlt, z.1, z.2⟩, ?_⟩
    rintro y H2 ⟨T, x, rfl, hT, rfl, hx⟩
    obtain ⟨z, hz, rz⟩ := rG.got (hx vs q)
    have eT : Ex H' (upd H' T (.tup [.int (i : Nat), x])) := Evl.Ex.new hT
    exact ⟨T, _, rfl, SqT.of upd_same, rfl, _, _, rfl, _, _, rfl, rfl, js i z x σ' H' _ hz eH eT rz j⟩
  · have e : i = List.length xs := by omega
    subst e
    exact .inl ⟨⟨vs, q, by omega⟩, jd σ' H' eH j⟩
theorem q_enumTV {xs : Tp α} {m n c : Nat} {v : V} {tb u : TS} {D : Ends} (hσ : σ[c]? = some (some v)) (r : Rep K G v xs) (e : Ex G H) (J : Nat → L2.St → Hp → Prop) (j0 : J 0 σ H)
    (js : ∀ i x w σ' H' H'', (show List α from xs)[i]? = some x → Ex G H' → Ex H' H'' → Rep K G w x → J i σ' H' → tb { D with nx := fun σ3 H3 => Ex G H3 ∧ J (i + 1) σ3 H3, ct := fun σ3 H3 => Ex G H3 ∧ J (i + 1) σ3 H3, bk := u D } ((σ'.set m (some (.int (i : Nat)))).set n (some w)) H'')
    (jd : ∀ σ' H', Ex G H' → J (List.length xs) σ' H' → u D σ' H') : tSeq (tFor (iEnumT K (tCons (tVar c) tNil)) (gTup K 2 (gCons (gName m) (gCons (gName n) gNil))) tb) u D σ H := s_enumTV (D := { D with nx := u D }) hσ r e J j0 js jd
theorem er_neB {x y : Bool} (ha : ER K ta σ H x) (hb : ER K tb σ H y) : ER K (tOp rNe ta tb) σ H (!decide (x = y)) := fun H1 e Q q =>
  ha.evB H1 e _ fun H2 e2 => hb.evB H2 (e.trans e2) _ fun H3 e3 => ⟨rfl, by
    have : decide (V.bl x = V.bl y) = decide (x = y) := by simp
    rw [this]; exact q _ H3 (e2.trans e3) (rep_bool _)⟩
theorem cut_take {α : Type} {xs : List α} {k : Nat} (h : k ≤ xs.length) : cutD xs none (some (k : Int)) = xs.take k := by
  unfold cutD
  rw [HT.sIx_none, HT.sIx_nat, List.drop_zero, Nat.sub_zero]
  congr 1
  omega
theorem cut_drop {α : Type} {xs : List α} {k : Nat} (h : k ≤ xs.length) : cutD xs (some (k : Int)) none = xs.drop k := by
  unfold cutD
  rw [HT.sIx_none, HT.sIx_nat, Nat.min_eq_left h]
  exact List.take_of_length_le (by rw [List.length_drop]; omega)
/-- a for over a new list -/
theorem s_forL {xs : List α} {g : TG} {tb : TS} {D : Ends} (h : EL K te σ H xs) (k : ∀ p H1, H p = none → Ex H H1 → Own K H1 p xs → ∃ (G : Hp) (J : Nat → L2.St → Hp → Prop), Ex G H1 ∧ Own K G p xs ∧ J 0 σ H1 ∧
      (∀ i x v σ' H', xs[i]? = some x → Ex G H' → Rep K G v x → J i σ' H' → g v σ' H' fun σ2 H2 => tb { D with nx := fun σ3 H3 => Ex G H3 ∧ J (i + 1) σ3 H3, ct := fun σ3 H3 => Ex G H3 ∧ J (i + 1) σ3 H3, bk := D.nx } σ2 H2) ∧
      (∀ σ' H', Ex G H' → J xs.length σ' H' → D.nx σ' H')) : tFor (iList K te) g tb D σ H := h H (Ex.refl H) _ fun p H1 hp e1 o => by
  obtain ⟨G, J, eG, oG, j0, js, jd⟩ := k p H1 hp e1 o
  obtain ⟨vs, h1, r1⟩ := oG.ex
  have sG : SqL K G p vs := SqL.of h1
  have rG : Reps K G vs xs := r1.mono cut_ex
  refine ⟨p, rfl, ⟨vs, Evl.ex_l eG sG⟩, for_list (K := K) (a := p) (xs := vs) (fun i σ' H' => Ex G H' ∧ J i σ' H') ⟨eG, j0⟩ (fun i σ' H' _ z => Evl.ex_l z.1 sG) (fun i v σ' H' hi z => ?_) (fun σ' H' z => ?_)⟩
  · obtain ⟨x, hx, rx⟩ := rG.got hi
    exact js i x v σ' H' hx z.1 rx z.2
  · rw [rG.len] at z
    exact jd σ' H' z.1 z.2
theorem q_forL {xs : List α} {g : TG} {tb u : TS} {D : Ends} (h : EL K te σ H xs) (k : ∀ p H1, H p = none → Ex H H1 → Own K H1 p xs → ∃ (G : Hp) (J : Nat → L2.St → Hp → Prop), Ex G H1 ∧ Own K G p xs ∧ J 0 σ H1 ∧
      (∀ i x v σ' H', xs[i]? = some x → Ex G H' → Rep K G v x → J i σ' H' → g v σ' H' fun σ2 H2 => tb { D with nx := fun σ3 H3 => Ex G H3 ∧ J (i + 1) σ3 H3, ct := fun σ3 H3 => Ex G H3 ∧ J (i + 1) σ3 H3, bk := u D } σ2 H2) ∧
      (∀ σ' H', Ex G H' → J xs.length σ' H' → u D σ' H')) : tSeq (tFor (iList K te) g tb) u D σ H := s_forL (D := { D with nx := u D }) h k
/-- for i, TARGET in enumerate(xs), xs a name -/
theorem s_enumGV {xs : List α} {m c : Nat} {v : V} {g : TG} {tb : TS} {D : Ends} (hσ : σ[c]? = some (some v)) (r : Rep K G v xs) (e : Ex G H) (J : Nat → L2.St → Hp → Prop) (j0 : J 0 σ H)
    (js : ∀ i x w σ' H' H'', xs[i]? = some x → Ex G H' → Ex H' H'' → Rep K G w x → J i σ' H' → g w (σ'.set m (some (.int (i : Nat)))) H'' fun σ2 H2 => ([] : List V) = [] ∧ tb { D with nx := fun σ3 H3 => Ex G H3 ∧ J (i + 1) σ3 H3, ct := fun σ3 H3 => Ex G H3 ∧ J (i + 1) σ3 H3, bk := D.nx } σ2 H2)
    (jd : ∀ σ' H', Ex G H' → J xs.length σ' H' → D.nx σ' H') : tFor (iEnum K (tCons (tVar c) tNil)) (gTup K 2 (gCons (gName m) (gCons g gNil))) tb D σ H := by
  obtain ⟨a, vs, rfl, s, rG⟩ := Rep.list r
  have hl := rG.len
  refine ⟨_, hσ, a, vs, rfl, Evl.ex_l e s, fun i k' σ' H' => k' = xs.length - i ∧ i ≤ xs.length ∧ Ex G H' ∧ J i σ' H', ⟨_, rfl, Nat.zero_le _, e, j0⟩, ?_⟩
  rintro i k' σ' H' ⟨rfl, hi, eH, j⟩
  have q := Evl.ex_l eH s
  by_cases hlt : i < xs.length
  · refine .inr ⟨⟨vs, vs[i]'(by omega), q, by simp [hl, hlt]⟩, fun σ3 H3 => Ex G H3 ∧ J (i + 1) σ3 H3, fun σ3 H3 z => ⟨_, by omega, rfl, hlt, z.1, z.2⟩, ?_⟩
    rintro y H2 ⟨T, x, rfl, hT, rfl, hx⟩
    obtain ⟨z, hz, rz⟩ := rG.got (hx vs q)
    have eT : Ex H' (upd H' T (.tup [.int (i : Nat), x])) := Evl.Ex.new hT
    exact ⟨T, _, rfl, SqT.of upd_same, rfl, _, _, rfl, _, _, rfl, js i z x σ' H' _ hz eH eT rz j⟩
  · have e : i = xs.length := by omega
    subst e
    exact .inl ⟨⟨vs, q, by omega⟩, jd σ' H' eH j⟩
theorem q_enumGV {xs : List α} {m c : Nat} {v : V} {g : TG} {tb u : TS} {D : Ends} (hσ : σ[c]? = some (some v)) (r : Rep K G v xs) (e : Ex G H) (J : Nat → L2.St → Hp → Prop) (j0 : J 0 σ H)
    (js : ∀ i x w σ' H' H'', xs[i]? = some x → Ex G H' → Ex H' H'' → Rep K G w x → J i σ' H' → g w (σ'.set m (some (.int (i : Nat)))) H'' fun σ2 H2 => ([] : List V) = [] ∧ tb { D with nx := fun σ3 H3 => Ex G H3 ∧ J (i + 1) σ3 H3, ct := fun σ3 H3 => Ex G H3 ∧ J (i + 1) σ3 H3, bk := u D } σ2 H2)
    (jd : ∀ σ' H', Ex G H' → J xs.length σ' H' → u D σ' H') : tSeq (tFor (iEnum K (tCons (tVar c) tNil)) (gTup K 2 (gCons (gName m) (gCons g gNil))) tb) u D σ H := s_enumGV (D := { D with nx := u D }) hσ r e J j0 js jd
end
end Z
set_option Elab.async false
set_option linter.all false
set_option maxRecDepth 100000
set_option maxHeartbeats 2000000
set_option autoImplicit false
namespace Z
open PySem L2
open Evl (Ex)
open Dat
/-! ### sorted(set(xs)) -/
def ddStep {α : Type} [DecidableEq α] (acc : List α) (x : α) : List α := if x ∈ acc then acc else acc ++ [x]
/-- each item once, in the order of its first time -/
def dd {α : Type} [DecidableEq α] (xs : List α) : List α := xs.foldl ddStep []
section
variable {α : Type} [DecidableEq α]
theorem dd_go (xs acc : List α) (f : α → Int) (h1 : acc.Nodup) (h2 : acc.Pairwise fun a b => f a ≤ f b) (h3 : xs.Pairwise fun a b => f a ≤ f b) (h4 : ∀ a b, a ∈ acc → b ∈ xs → f a ≤ f b) :
    (xs.foldl ddStep acc).Nodup ∧ (xs.foldl ddStep acc).Pairwise (fun a b => f a ≤ f b) ∧ ∀ x, x ∈ xs.foldl ddStep acc ↔ x ∈ acc ∨ x ∈ xs := by
  induction xs generalizing acc with
  | nil => exact ⟨h1, h2, fun x => by simp⟩
  | cons y ys ih =>
    rw [List.foldl_cons]
    have h3' := (List.pairwise_cons.mp h3)
    by_cases hy : y ∈ acc
    · have e : ddStep acc y = acc := if_pos hy
      rw [e]
      obtain ⟨a1, a2, a3⟩ := ih acc h1 h2 h3'.2 fun a b ha hb => h4 a b ha (List.mem_cons_of_mem _ hb)
      refine ⟨a1, a2, fun x => (a3 x).trans ?_⟩
      constructor
      · rintro (h | h)
        · exact .inl h
        · exact .inr (List.mem_cons_of_mem _ h)
      · rintro (h | h)
        · exact .inl h
        · rcases List.mem_cons.mp h with rfl | h
          · exact .inl hy
          · exact .inr h
    · have e : ddStep acc y = acc ++ [y] := if_neg hy
      rw [e]
      obtain ⟨a1, a2, a3⟩ := ih (acc ++ [y]) (List.nodup_append.mpr ⟨h1, by simp, fun a ha b hb => by
          have := List.mem_singleton.mp hb
          subst this
          intro z
          exact hy (z ▸ ha)⟩) (List.pairwise_append.mpr ⟨h2, by simp, fun a ha b hb => by
          have := List.mem_singleton.mp hb
          subst this
          exact h4 a b ha (List.mem_cons_self ..)⟩) h3'.2 fun a b ha hb => by
        rcases List.mem_append.mp ha with ha | ha
        · exact h4 a b ha (List.mem_cons_of_mem _ hb)
        · have := List.mem_singleton.mp ha
          subst this
          exact h3'.1 b hb
      refine ⟨a1, a2, fun x => (a3 x).trans ?_⟩
      rw [List.mem_append, List.mem_singleton, List.mem_cons, or_assoc]
theorem dd_all (xs : List α) (f : α → Int) (h : xs.Pairwise fun a b => f a ≤ f b) : (dd xs).Nodup ∧ (dd xs).Pairwise (fun a b => f a ≤ f b) ∧ ∀ x, x ∈ dd xs ↔ x ∈ xs := by
  obtain ⟨a1, a2, a3⟩ := dd_go xs [] f (by simp) (by simp) h (fun a b ha => by cases ha)
  exact ⟨a1, a2, fun x => (a3 x).trans (by simp)⟩
end
def sset (B : Int) (xs : List (Tp Int)) : List (Tp Int) := dd (srtK (codeT B) xs)
theorem dd_len {α : Type} [DecidableEq α] (xs acc : List α) : (xs.foldl ddStep acc).length ≤ acc.length + xs.length := by
  induction xs generalizing acc with
  | nil => exact Nat.le_refl _
  | cons y ys ih =>
    have h := ih (ddStep acc y)
    have h2 : (ddStep acc y).length ≤ acc.length + 1 := by
      unfold ddStep
      split
      · exact Nat.le_succ _
      · rw [List.length_append]
        exact Nat.le_refl _
    rw [List.foldl_cons, List.length_cons]
    omega
theorem sset_len {B : Int} {xs : List (Tp Int)} : (sset B xs).length ≤ xs.length := by
  have h := dd_len (srtK (codeT B) xs) []
  rw [srtK_len] at h
  exact Nat.le_trans h (by simp)
theorem sset_mem {B : Int} {xs : List (Tp Int)} {t : Tp Int} : t ∈ sset B xs ↔ t ∈ xs := ((dd_all _ (codeT B) srtK_pw).2.2 t).trans srtK_mem
section
variable {K : PySem.W.Frag} {P : Program} {w : World} {σ : L2.St} {G H H' : Hp} {te : TE}
theorem reps_keys : ∀ {vs : List V} {xs : List (Tp Int)}, Reps K H vs xs → ∃ ks : List (Addr × List Int), vs = ks.map (fun p => V.ref p.1) ∧ xs = ks.map (fun p => (show Tp Int from p.2)) ∧ ∀ p ∈ ks, SqT K H p.1 (p.2.map V.int)
  | [], [], _ => ⟨[], rfl, rfl, fun p hp => by cases hp⟩
  | v :: vs, [], r => by cases Reps.len r
  | [], x :: xs, r => by cases Reps.len r
  | v :: vs, x :: xs, r => by
    obtain ⟨_, _, e, h1, h2⟩ := Reps.inv r
    cases e
    obtain ⟨ks, e1, e2, e3⟩ := reps_keys h2
    obtain ⟨t, rfl, s⟩ := tupI_rep h1
    refine ⟨(t, (show List Int from x)) :: ks, by rw [e1]; rfl, by rw [e2]; rfl, fun p hp => ?_⟩
    rcases List.mem_cons.mp hp with rfl | hp
    · exact s
    · exact e3 p hp
theorem keys_reps : ∀ {ks : List (Addr × List Int)}, (∀ p ∈ ks, SqT K H p.1 (p.2.map V.int)) → Reps K H (ks.map fun p => V.ref p.1) (ks.map fun p => (show Tp Int from p.2))
  | [], _ => reps_nil
  | p :: ks, h => Reps.cons (rep_tup (h p (List.mem_cons_self ..)) (Reps.int_map _)) (keys_reps fun q hq => h q (List.mem_cons_of_mem _ hq))
theorem el_sset {d : Nat} {B : Int} {xs : List (Tp Int)} (h : ER K te σ H xs) (hl : xs.length < 64) (hd : 1 ≤ d) (hr : Rows d B xs) : EL K (tCB (rSortedT K P w) (tCons (tCB (rSetOfT K P w) (tCons te tNil)) tNil)) σ H (sset B xs) := fun H1 e Q q => h H1 e _ fun v H2 e2 r => by
  obtain ⟨a, vs, rfl, s, r⟩ := Rep.list r
  obtain ⟨ks, rfl, rfl, hk⟩ := reps_keys r
  refine ⟨a, ks, rfl, s, hk, by rw [List.length_map] at hl; exact hl, fun b L hb h1 h2 => ?_⟩
  have e3 : Ex H2 (upd H2 b (SetTO P w b L)) := Evl.Ex.new hb
  have hL : ∀ p ∈ L, SqT K (upd H2 b (SetTO P w b L)) p.1 (p.2.map V.int) := fun p hp => Evl.ex_t e3 (hk p (h1 p hp))
  refine ⟨b, L, d, B, rfl, upd_same, hL, hd, fun p hp => hr _ (List.mem_map.mpr ⟨p, h1 p hp, rfl⟩), fun L' p hp hn hc hs hpn => ?_⟩
  have e : L'.map (fun p => (show Tp Int from p.2)) = sset B (ks.map fun p => (show Tp Int from p.2)) := by
    have hm : ∀ t : Tp Int, t ∈ L'.map (fun p => (show Tp Int from p.2)) ↔ t ∈ ks.map (fun p => (show Tp Int from p.2)) := fun t => by
      constructor
      · intro ht
        obtain ⟨z, hz, rfl⟩ := List.mem_map.mp ht
        exact List.mem_map.mpr ⟨z, h1 z (hp.mem_iff.mp hz), rfl⟩
      · intro ht
        obtain ⟨z, hz, rfl⟩ := List.mem_map.mp ht
        obtain ⟨z', hz', e⟩ := List.mem_map.mp (h2 z hz)
        exact List.mem_map.mpr ⟨z', hp.mem_iff.mpr hz', e⟩
    obtain ⟨a1, a2, a3⟩ := dd_all (srtK (codeT B) (ks.map fun p => (show Tp Int from p.2))) (codeT B) srtK_pw
    refine srt_set (f := codeT B) (fun x y hx hy => hr.inj x y ((hm x).mp hx) ((hm y).mp hy)) ?_ a2 hn a1 fun t => (hm t).trans ((a3 t).trans srtK_mem).symm
    rw [List.pairwise_map]
    exact hs
  have e4 : Ex (upd H2 b (SetTO P w b L)) (upd (upd H2 b (SetTO P w b L)) p (.lst (L'.map fun q => V.ref q.1))) := Evl.Ex.new hpn
  refine q p _ (fresh_back (e2.trans e3) hpn) ((e2.trans e3).trans e4) ⟨_, upd_same, ?_⟩
  rw [cut_updn hpn, ← e]
  exact keys_reps fun z hz => hL z (hp.mem_iff.mp hz)
/-- data lean on no instance -/
theorem ins_ne {a r C dx : Addr} {fs : List (Str × V)} {u : HO} (h : Rd H a u) (hr : H r = some (.ins C dx fs)) (hu : ∀ C dx fs, u ≠ .ins C dx fs) : a ≠ r := fun z => by
  rcases h with h | ⟨o, h⟩
  · rw [z, hr] at h
    exact hu _ _ _ (Option.some.inj h).symm
  · rw [z, hr] at h
    cases h
theorem rd_cut {a r : Addr} {u : HO} (h : Rd H a u) (ne : a ≠ r) : Rd (cut H r) a u := by
  rcases h with h | ⟨o, h⟩
  · exact .inl (by rw [cut_ne ne]; exact h)
  · exact .inr ⟨o, by rw [cut_ne ne]; exact h⟩
theorem Tups.cutI {r C dx : Addr} {fs : List (Str × V)} (hr : H r = some (.ins C dx fs)) : Tups H (Z.cut H r) := fun a ys h => rd_cut h (ins_ne h hr (fun _ _ _ z => by cases z))
theorem rep_cutI {α : Type} [Dat α] [Flat α] {v : V} {xs : List α} {r C dx : Addr} {fs : List (Str × V)} (h : Rep K H v xs) (hr : H r = some (.ins C dx fs)) : Rep K (cut H r) v xs := by
  obtain ⟨a, vs, rfl, s, rs⟩ := Rep.list h
  refine rep_list ?_ (rs.imm (Tups.cutI hr))
  rcases s with s | s
  · exact .inl (rd_cut s (ins_ne s hr (fun _ _ _ z => by cases z)))
  · exact .inr s
/-! ### [f(a, b) for a, b in xs] -/
theorem wipe2 {m n : Nat} (hmn : m ≠ n) (v u : Option V) : wipe (((wipe σ [m, n]).set m v).set n u) [m, n] = wipe σ [m, n] := by
  have e : ∀ τ : L2.St, wipe τ [m, n] = (τ.set n none).set m none := fun τ => by first | rfl | (show (τ.set m none).set n none = _; exact List.set_comm none none hmn)
  rw [e, e]
  apply List.ext_getElem?
  intro i
  simp only [List.getElem?_set, List.length_set]
  split
  · rfl
  · split <;> rfl
theorem el_mapP {β : Type} [Dat β] [Flat β] {tl : TE} {xs : List (Tp Int)} {f : Tp Int → β} {m n : Nat} (hmn : m ≠ n) (h : ER K tl σ H xs) (two : ∀ t : Tp Int, t ∈ xs → List.length t = 2)
    (he : ∀ (t : Tp Int) H', t ∈ xs → Ex H H' → ER K te (((wipe σ [m, n]).set m (some (.int (List.getD (α := Int) t 0 0)))).set n (some (.int (List.getD (α := Int) t 1 0)))) H' (f t)) (hz : xs.length ≤ 100000) :
    EL K (tLc (iList K tl) (gTup K 2 (gCons (gName m) (gCons (gName n) gNil))) tYes te [m, n]) σ H (xs.map f) := fun H0 e0 Q q => h H0 e0 _ fun v H1 e1 r => by
  obtain ⟨a, vs, rfl, s, r⟩ := Rep.list r
  refine ⟨a, rfl, ⟨vs, s⟩, fun D hD => lc_list (K := K) (a := a) (xs := vs) (fun j H' => Ex H1 H' ∧ Own K H' D ((xs.take j).map f)) ⟨Evl.Ex.new hD, by simpa using Own.nil⟩ (fun j H' _ z => Evl.ex_l z.1 s) (fun j v H' hj z => ?_) (fun H' z => ?_)⟩
  · obtain ⟨x, hx, rx⟩ := r.got hj
    have hlt : j < xs.length := (List.getElem?_eq_some_iff.mp hx).1
    have hm := List.mem_of_getElem? hx
    have hx2 : (show List Int from x) = [List.getD (α := Int) x 0 0, List.getD (α := Int) x 1 0] := by
      have l2 := two x hm
      match x, l2 with
      | [a, b], _ => rfl
    refine g_pair (rx.mono z.1) hx2 ⟨wipe2 hmn _ _, he x H' hm (e0.trans (e1.trans z.1)) H' (Ex.refl H') _ fun w H2 e2 rw' => ?_⟩
    obtain ⟨acc, h1, r1⟩ := (z.2.mono e2).ex
    refine ⟨acc, h1, Evl.sz_lt (by rw [r1.len, List.length_map, List.length_take]; omega), ex_mut (z.1.trans e2) hD, acc ++ [w], upd_same, ?_⟩
    rw [cut_upd, show xs.take (j + 1) = xs.take j ++ [x] by rw [List.take_succ, hx]; rfl, List.map_append]
    exact r1.append (Reps.cons (rw'.imm (Tups.cut h1)) reps_nil)
  · have e : xs.take vs.length = xs := by rw [r.len, List.take_length]
    rw [e] at z
    exact q D H' (fresh_back e1 hD) (e1.trans z.1) z.2
end
end Z
set_option Elab.async false
set_option linter.all false
set_option autoImplicit false
namespace Z
open PySem L2
/-! the rules whose reading names the place's kit, with the kit told from outside: a block's place leans on its own names -/
section
variable {K : PySem.W.Frag} {X : Cx}
theorem k_ix_list (e : X.K = K) : IxR X (rIxL K) := e ▸ ix_list
theorem k_ix_tup (e : X.K = K) : IxR X (rIxT K) := e ▸ ix_tup
theorem k_sl_list (e : X.K = K) : SlR X (rSlL K) := e ▸ sl_list
theorem k_sl_tupA (e : X.K = K) : SlR X (rSlA K) := e ▸ sl_tupA
theorem k_op_in_seq (e : X.K = K) : OpR X (compareOp .In) (rIn K false) := e ▸ op_in_seq
theorem k_op_notIn_seq (e : X.K = K) : OpR X (compareOp .NotIn) (rIn K true) := e ▸ op_notIn_seq
theorem k_op_eqD (e : X.K = K) (hu : X.A.units + 64 < cLine) : OpR X (compareOp .Eq) (rEqD K) := e ▸ op_eqD hu
theorem k_op_neD (e : X.K = K) (hu : X.A.units + 64 < cLine) : OpR X (compareOp .NotEq) (rNeD K) := e ▸ op_neD hu
theorem k_op_catA (e : X.K = K) : OpR X (binaryOp .Add) (rCatA K) := e ▸ op_catA
theorem k_op_ltT (e : X.K = K) (hu : X.A.units < cLine) : OpR X (compareOp .Lt) (rLtT K) := e ▸ op_ltT hu
theorem k_call_len_seq (e : X.K = K) : CallR X (.builtin "len") fun xs H Q => ∃ p ys, xs = [.ref p] ∧ (SqL K H p ys ∨ SqT K H p ys) ∧ Q (.int ys.length) H := e ▸ call_len_seq
theorem k_call_list_of (e : X.K = K) : CallR X (.type "list") fun xs H Q => ∃ p ys, xs = [.ref p] ∧ (SqL K H p ys ∨ SqT K H p ys) ∧ ∀ l, H l = none → Q (.ref l) (upd H l (.lst ys)) := e ▸ call_list_of
theorem k_call_tuple_of (e : X.K = K) : CallR X (.type "tuple") fun xs H Q => ∃ p ys, xs = [.ref p] ∧ ((SqL K H p ys ∧ ∀ l, H l = none → Q (.ref l) (upd H l (.tup ys))) ∨ (SqT K H p ys ∧ Q (.ref p) H)) := e ▸ call_tuple_of
theorem k_call_isi (e : X.K = K) : CallR X (.builtin "isinstance") (rIsi K) := e ▸ call_isi
theorem k_mt_index (e : X.K = K) : MtR X "list.index" (rIndex K) := e ▸ mt_index
theorem k_pi_list {tg l : Expr} {tl : TE} (e : X.K = K) (h : PE X l tl) : PI X tg l (iList K tl) := e ▸ pi_list h
theorem k_pi_tup {tg l : Expr} {tl : TE} (e : X.K = K) (h : PE X l tl) : PI X tg l (iTup K tl) := e ▸ pi_tup h
theorem k_pi_enum {tg x : Expr} {ta : TA} (e : X.K = K) (h : PI X tg x (iEnum X.K ta)) : PI X tg x (iEnum K ta) := e ▸ h
theorem k_pi_zip {tg x : Expr} {ta : TA} (e : X.K = K) (h : PI X tg x (iZip X.K ta)) : PI X tg x (iZip K ta) := e ▸ h
theorem k_pe_fld {x : Expr} {ta : TE} {f : Str} (e : X.K = K) (h : PE X x (tFld X.K ta f)) : PE X x (tFld K ta f) := e ▸ h
theorem k_ps_fld {x : Stmt} {ta tv : TE} {f : Str} (e : X.K = K) (h : PS X x (sFld X.K ta tv f)) : PS X x (sFld K ta tv f) := e ▸ h
theorem k_pe_bm {x : Expr} {T : String} {r : V → List V → Hp → VK → Prop} {to : TE} {t : TA} (e : X.K = K) (h : PE X x (tBM X.K T r to t)) : PE X x (tBM K T r to t) := e ▸ h
theorem k_pe_bm0 {x : Expr} {T : String} {r : V → List V → Hp → VK → Prop} {to : TE} (e : X.K = K) (h : PE X x (tBM0 X.K T r to)) : PE X x (tBM0 K T r to) := e ▸ h
theorem k_pg_tup {x : Expr} {n : Nat} {t : TGs} (e : X.K = K) (h : PG X x (gTup X.K n t)) : PG X x (gTup K n t) := e ▸ h
theorem k_pe_revL {x : Expr} {te : TE} (e : X.K = K) (h : PE X x (tRevL X.K te)) : PE X x (tRevL K te) := e ▸ h
theorem k_pt_truth {x : Expr} {ta : TE} (e : X.K = K) (h : PT X x fun σ H Q => ta σ H fun v H' => ∃ k, TruV X.K v H' k ∧ Q k H') : PT X x fun σ H Q => ta σ H fun v H' => ∃ k, TruV K v H' k ∧ Q k H' := e ▸ h
theorem k_cr_all (e : X.K = K) (hc : X.calm = true) : CallR X (.builtin "all") (rAll K) := e ▸ cr_all hc
theorem k_cr_any (e : X.K = K) (hc : X.calm = true) : CallR X (.builtin "any") (rAny K) := e ▸ cr_any hc
theorem k_cr_sortedI (e : X.K = K) : CallR X (.builtin "sorted") (rSortedI K) := e ▸ cr_sortedI
theorem k_cr_sortedIT (e : X.K = K) : CallR X (.builtin "sorted") (rSortedIT K) := e ▸ cr_sortedIT
theorem k_cr_sortT {d : Nat} {B : Int} (e : X.K = K) (hd : 1 ≤ d) : CallR X (.builtin "sorted") (rSortU K d B) := e ▸ cr_sortT hd
theorem k_cr_sortedT {P : Program} {w : World} (e : X.K = K) (e1 : X.prog = P) (e2 : X.w = w) (hc : X.calm = true) : CallR X (.builtin "sorted") (rSortedT K P w) := e ▸ e1 ▸ e2 ▸ cr_sortedT hc
theorem k_cr_setOfT {P : Program} {w : World} (e : X.K = K) (e1 : X.prog = P) (e2 : X.w = w) (hc : X.calm = true) (hu : X.A.units + 64 < cLine) : CallR X (.type "set") (rSetOfT K P w) := e ▸ e1 ▸ e2 ▸ cr_setOfT hc hu
theorem k_op_inD (e : X.K = K) (hu : X.A.units + 65 < cLine) : OpR X (compareOp .In) (rInD K) := e ▸ op_inD hu
theorem k_op_notInD (e : X.K = K) (hu : X.A.units + 65 < cLine) : OpR X (compareOp .NotIn) (rNotInD K) := e ▸ op_notInD hu
theorem k_pi_enumT {tg x : Expr} {ta : TA} (e : X.K = K) (h : PI X tg x (iEnumT X.K ta)) : PI X tg x (iEnumT K ta) := e ▸ h
theorem k_cr_sum (e : X.K = K) (h : CallR X (.builtin "sum") (rSum X.K)) : CallR X (.builtin "sum") (rSum K) := e ▸ h
theorem u65 {k : Nat} {A : Around} (r : Room k A) : A.units + 65 < cLine := by have := r.un; omega
end
end Z
set_option Elab.async false
set_option linter.all false
set_option maxRecDepth 100000
set_option maxHeartbeats 4000000
set_option autoImplicit false
namespace Z
open PySem L2
/-- law(script): True -/
def spLaw (K : PySem.W.Frag) : Sp := fun vs H Q _ => ∃ (a : Addr) (ns : List Int), vs = [.ref a] ∧ SqL K H a (ns.map V.int) ∧ ns.length ≤ 63 ∧ ∀ H', Q (.bl true) H'
theorem walk {k : Nat} {l : PySem.W.OpenLaw} {q : Program} {loose : List Str} {XP : (Str → Option Value) → Heap → Prop} {YP : World → Heap → Prop} {d : DefRec} {K : Params → PySem.W.Frag} (hn : l.most = some 63) (hk : callerA.depth + 3 * k + 5 < recursionLimit) (hk2 : callerA.units + 16 * k + 200 < cLine) (hdf : d.params.defaults = []) (hY : ∀ (w : World) (h : Heap), YP w h → (K w.params).In h)
    (F : ∀ (w : World) (mg : Str → Option Value) (fa : Addr) (h : Heap), (K w.params).In h → h.Ns mainGlobals mg → mg d.name = some (.ref fa) →
      ∃ fd : FuncData, (∀ (s : Shared) (u : Value), BindsTo s fd ⟨[u], []⟩ [("script", u)]) ∧ ∀ base : Heap, (K w.params).In base → base.Ns mainGlobals mg → FnOk l.prog w (K w.params) mg base CX0 k fa fd ["script"] (spLaw (K w.params))) :
    PySem.W.WalkO q loose XP YP l.row.toRowW d [] (fun f vs => PySem.call f vs) :=
  L2.walk_of (n := 63) (k := k) (x := "script") (CX := fun _ => CX0) (sp := fun w => spLaw (K w.params)) hn (by decide) hdf ⟨rfl, hk, hk2⟩ hY F (fun _ _ a ns hl _ hS => ⟨a, ns, rfl, hS, hl, fun _ => rfl⟩) fun _ _ _ _ _ z => z
end Z
set_option Elab.async false
set_option linter.all false
set_option maxRecDepth 100000
set_option maxHeartbeats 4000000
set_option autoImplicit false
namespace Z
open PySem L2
theorem len1 {K : PySem.W.Frag} {α ε : Type} [Dat α] [Dat ε] {pre : α → Prop} {m : α → ε} {s1 : Str} : ∀ vs H Q E, sp1 K pre m vs H Q E → vs.length = [s1].length := fun vs H Q E h => by
  obtain ⟨v, x, rfl, _⟩ := h
  rfl
theorem len2 {K : PySem.W.Frag} {α β ε : Type} [Dat α] [Dat β] [Dat ε] {pre : α → β → Prop} {m : α → β → ε} {s1 s2 : Str} : ∀ vs H Q E, sp2 K pre m vs H Q E → vs.length = [s1, s2].length := fun vs H Q E h => by
  obtain ⟨v, u, x, y, rfl, _⟩ := h
  rfl
theorem len3 {K : PySem.W.Frag} {α β γ ε : Type} [Dat α] [Dat β] [Dat γ] [Dat ε] {pre : α → β → γ → Prop} {m : α → β → γ → ε} {s1 s2 s3 : Str} : ∀ vs H Q E, sp3 K pre m vs H Q E → vs.length = [s1, s2, s3].length := fun vs H Q E h => by
  obtain ⟨v, u, t, x, y, z, rfl, _⟩ := h
  rfl
theorem lel1 {K : PySem.W.Frag} {α ε : Type} [Dat α] [Dat ε] {pre : α → Prop} {m : α → List ε} {s1 : Str} : ∀ vs H Q E, sl1 K pre m vs H Q E → vs.length = [s1].length := fun vs H Q E h => by
  obtain ⟨v, x, rfl, _⟩ := h
  rfl
theorem lel2 {K : PySem.W.Frag} {α β ε : Type} [Dat α] [Dat β] [Dat ε] {pre : α → β → Prop} {m : α → β → List ε} {s1 s2 : Str} : ∀ vs H Q E, sl2 K pre m vs H Q E → vs.length = [s1, s2].length := fun vs H Q E h => by
  obtain ⟨v, u, x, y, rfl, _⟩ := h
  rfl
theorem lel3 {K : PySem.W.Frag} {α β γ ε : Type} [Dat α] [Dat β] [Dat γ] [Dat ε] {pre : α → β → γ → Prop} {m : α → β → γ → List ε} {s1 s2 s3 : Str} : ∀ vs H Q E, sl3 K pre m vs H Q E → vs.length = [s1, s2, s3].length := fun vs H Q E h => by
  obtain ⟨v, u, t, x, y, z, rfl, _⟩ := h
  rfl
end Z
namespace Z
open PySem L2
/-! ### the mirror -/
def cell (ns : List Int) (k : Int) : Int := if k < ns.length then ns.getD k.toNat 0 else 0
def big : Int → List Int → List Int
  | _, [] => []
  | r, b :: bs => r % b :: big (r / b) bs
def small : Int → List Int → List Int
  | _, [] => []
  | s, b :: bs => ((s * 48271 + 12345) % 2147483647) / 64 % b :: small ((s * 48271 + 12345) % 2147483647) bs
def drw (c : Int) (bs : List Int) : List Int := if 10 ^ 18 ≤ c then big (c - 10 ^ 18) bs else small (c % 2147483647) bs
def bigR (r : Int) (bs : List Int) : Int := bs.foldl (fun r b => r / b) r
def smallR (s : Int) (bs : List Int) : Int := bs.foldl (fun s _ => (s * 48271 + 12345) % 2147483647) s
theorem big_snoc (r b : Int) (bs : List Int) : big r (bs ++ [b]) = big r bs ++ [bigR r bs % b] := by
  induction bs generalizing r with
  | nil => rfl
  | cons c bs ih => simp [big, ih, bigR]
theorem small_snoc (s b : Int) (bs : List Int) : small s (bs ++ [b]) = small s bs ++ [((smallR s bs * 48271 + 12345) % 2147483647) / 64 % b] := by
  induction bs generalizing s with
  | nil => rfl
  | cons c bs ih => simp [small, ih, smallR]
theorem small_len (s : Int) (bs : List Int) : (small s bs).length = bs.length := by
  induction bs generalizing s with
  | nil => rfl
  | cons c bs ih => simp [small, ih]
theorem big_len (s : Int) (bs : List Int) : (big s bs).length = bs.length := by
  induction bs generalizing s with
  | nil => rfl
  | cons c bs ih => simp [big, ih]
theorem take_succ_get {α : Type} {xs : List α} {i : Nat} {x : α} (h : xs[i]? = some x) : xs.take (i + 1) = xs.take i ++ [x] := by rw [List.take_succ, h]; rfl
theorem smallR_lt {s : Int} (h0 : 0 ≤ s) (h1 : s < 2147483647) (bs : List Int) : 0 ≤ smallR s bs ∧ smallR s bs < 2147483647 := by
  unfold smallR
  induction bs generalizing s with
  | nil => exact ⟨h0, h1⟩
  | cons b bs ih => exact ih (Int.emod_nonneg _ (by decide)) (Int.emod_lt_of_pos _ (by decide))
theorem draw_len (c : Int) (bs : List Int) : (drw c bs).length = bs.length := by
  unfold drw
  split
  · exact big_len _ _
  · exact small_len _ _
theorem big_at {bs : List Int} {r : Int} {i : Nat} {b : Int} (h : bs[i]? = some b) (hb : 0 < b) : ∃ x, (big r bs)[i]? = some x ∧ 0 ≤ x ∧ x < b := by
  induction bs generalizing r i with
  | nil => cases h
  | cons c cs ih =>
    cases i with
    | zero =>
      cases h
      exact ⟨_, rfl, Int.emod_nonneg _ (by omega), Int.emod_lt_of_pos _ hb⟩
    | succ i => exact ih h
theorem small_at {bs : List Int} {r : Int} {i : Nat} {b : Int} (h : bs[i]? = some b) (hb : 0 < b) : ∃ x, (small r bs)[i]? = some x ∧ 0 ≤ x ∧ x < b := by
  induction bs generalizing r i with
  | nil => cases h
  | cons c cs ih =>
    cases i with
    | zero =>
      cases h
      exact ⟨_, rfl, Int.emod_nonneg _ (by omega), Int.emod_lt_of_pos _ hb⟩
    | succ i => exact ih h
theorem draw_at {bs : List Int} {c : Int} {i : Nat} {b : Int} (h : bs[i]? = some b) (hb : 0 < b) : ∃ x, atI (drw c bs) (i : Int) = some x ∧ 0 ≤ x ∧ x < b := by
  have : ∃ x, (drw c bs)[i]? = some x ∧ 0 ≤ x ∧ x < b := by
    unfold drw
    split
    · exact big_at h hb
    · exact small_at h hb
  obtain ⟨x, h1, h2⟩ := this
  exact ⟨x, Z.atI_ofN h1, h2⟩
end Z
set_option Elab.async false
set_option linter.all false
set_option maxRecDepth 100000
set_option maxHeartbeats 4000000
set_option autoImplicit false
namespace Y
open PySem L2 Z
def top (i : Nat) : Stmt := PySem.Challenge.pw_everystepstands_k91_orders_by_neighbours.main.body.getD i (.Pass ⟨0, 0, 0, 0⟩)
abbrev s_unlike : Stmt := top 1
abbrev s_BadWebw_initw : Stmt := inClass (top 4) 0
abbrev s_BadWorldw_initw : Stmt := inClass (top 5) 0
abbrev s_Worldw_initw : Stmt := inClass (top 7) 0
abbrev s_World_is_answer : Stmt := inClass (top 7) 1
abbrev s_World_is_change : Stmt := inClass (top 7) 2
abbrev s_World_next_answers : Stmt := inClass (top 7) 3
abbrev s_World_blocked : Stmt := inClass (top 7) 4
abbrev s_Ordersw_initw : Stmt := inClass (top 11) 0
abbrev s_Orders_is_answer : Stmt := inClass (top 11) 1
abbrev s_Orders_is_change : Stmt := inClass (top 11) 2
abbrev s_Orders_next_answers : Stmt := inClass (top 11) 3
abbrev s_Orders_blocked : Stmt := inClass (top 11) 4
abbrev s_spots_of : Stmt := top 12
abbrev s_exchanged : Stmt := top 13
abbrev s_unlike_pairs : Stmt := top 14
abbrev s_law_cell : Stmt := top 16
abbrev s_law_draw : Stmt := top 17
abbrev s_law_int : Stmt := top 18
abbrev s_law_truth : Stmt := top 19
abbrev s_law_equal : Stmt := top 20
abbrev s_law_order : Stmt := top 21
abbrev s_law_spots : Stmt := top 22
abbrev s_law_facts : Stmt := top 23
abbrev s_law_is_order : Stmt := top 24
abbrev s_law_swapped : Stmt := top 25
abbrev s_law_is_change : Stmt := top 26
abbrev s_law_next : Stmt := top 27
abbrev s_law_unlike : Stmt := top 28
abbrev s_law_settings : Stmt := top 29
abbrev s_law_doors_stand : Stmt := top 30
abbrev s_law_refused : Stmt := top 31
abbrev s_law_wrong_fact : Stmt := top 32
abbrev s_law : Stmt := top 33
abbrev N_unlike : List Str := ["first", "second", "position"]
theorem sc_unlike : FnScope N_unlike ["first", "second"] (defScope s_unlike) := ⟨rfl, rfl, rfl, by decide +kernel, rfl, by decide +kernel, by decide +kernel⟩
abbrev N_BadWebw_initw : List Str := ["self", "index"]
theorem sc_BadWebw_initw : FnScopeS N_BadWebw_initw ["self", "index"] (defScope s_BadWebw_initw) := ⟨rfl, rfl, rfl, by decide +kernel, rfl, by decide +kernel, by decide +kernel, by decide +kernel, rfl, rfl⟩
abbrev N_BadWorldw_initw : List Str := ["self", "index"]
theorem sc_BadWorldw_initw : FnScopeS N_BadWorldw_initw ["self", "index"] (defScope s_BadWorldw_initw) := ⟨rfl, rfl, rfl, by decide +kernel, rfl, by decide +kernel, by decide +kernel, by decide +kernel, rfl, rfl⟩
abbrev N_Worldw_initw : List Str := ["self", "size"]
theorem sc_Worldw_initw : FnScope N_Worldw_initw ["self", "size"] (defScope s_Worldw_initw) := ⟨rfl, rfl, rfl, by decide +kernel, rfl, by decide +kernel, by decide +kernel⟩
abbrev N_World_is_answer : List Str := ["self", "setting"]
theorem sc_World_is_answer : FnScope N_World_is_answer ["self", "setting"] (defScope s_World_is_answer) := ⟨rfl, rfl, rfl, by decide +kernel, rfl, by decide +kernel, by decide +kernel⟩
abbrev N_World_is_change : List Str := ["self", "first", "second"]
theorem sc_World_is_change : FnScope N_World_is_change ["self", "first", "second"] (defScope s_World_is_change) := ⟨rfl, rfl, rfl, by decide +kernel, rfl, by decide +kernel, by decide +kernel⟩
abbrev N_World_next_answers : List Str := ["self", "setting"]
theorem sc_World_next_answers : FnScope N_World_next_answers ["self", "setting"] (defScope s_World_next_answers) := ⟨rfl, rfl, rfl, by decide +kernel, rfl, by decide +kernel, by decide +kernel⟩
abbrev N_World_blocked : List Str := ["self", "setting", "parts", "part"]
theorem sc_World_blocked : FnScope N_World_blocked ["self", "setting", "parts", "part"] (defScope s_World_blocked) := ⟨rfl, rfl, rfl, by decide +kernel, rfl, by decide +kernel, by decide +kernel⟩
abbrev N_Ordersw_initw : List Str := ["self", "count", "facts", "index", "one", "other"]
theorem sc_Ordersw_initw : FnScopeS N_Ordersw_initw ["self", "count", "facts"] (defScope s_Ordersw_initw) := ⟨rfl, rfl, rfl, by decide +kernel, rfl, by decide +kernel, by decide +kernel, by decide +kernel, rfl, rfl⟩
abbrev N_Orders_is_answer : List Str := ["self", "setting", "spots", "one", "other"]
theorem sc_Orders_is_answer : FnScope N_Orders_is_answer ["self", "setting"] (defScope s_Orders_is_answer) := ⟨rfl, rfl, rfl, by decide +kernel, rfl, by decide +kernel, by decide +kernel⟩
abbrev N_Orders_is_change : List Str := ["self", "first", "second", "spots"]
theorem sc_Orders_is_change : FnScope N_Orders_is_change ["self", "first", "second"] (defScope s_Orders_is_change) := ⟨rfl, rfl, rfl, by decide +kernel, rfl, by decide +kernel, by decide +kernel⟩
abbrev N_Orders_next_answers : List Str := ["self", "setting", "found", "spot", "other"]
theorem sc_Orders_next_answers : FnScope N_Orders_next_answers ["self", "setting"] (defScope s_Orders_next_answers) := ⟨rfl, rfl, rfl, by decide +kernel, rfl, by decide +kernel, by decide +kernel⟩
abbrev N_Orders_blocked : List Str := ["self", "setting", "parts", "part"]
theorem sc_Orders_blocked : FnScope N_Orders_blocked ["self", "setting", "parts", "part"] (defScope s_Orders_blocked) := ⟨rfl, rfl, rfl, by decide +kernel, rfl, by decide +kernel, by decide +kernel⟩
abbrev N_spots_of : List Str := ["setting", "spots", "spot", "thing"]
theorem sc_spots_of : FnScope N_spots_of ["setting"] (defScope s_spots_of) := ⟨rfl, rfl, rfl, by decide +kernel, rfl, by decide +kernel, by decide +kernel⟩
abbrev N_exchanged : List Str := ["setting", "spot"]
theorem sc_exchanged : FnScope N_exchanged ["setting", "spot"] (defScope s_exchanged) := ⟨rfl, rfl, rfl, by decide +kernel, rfl, by decide +kernel, by decide +kernel⟩
abbrev N_unlike_pairs : List Str := ["first", "second", "before", "after", "found", "one", "other"]
theorem sc_unlike_pairs : FnScope N_unlike_pairs ["first", "second"] (defScope s_unlike_pairs) := ⟨rfl, rfl, rfl, by decide +kernel, rfl, by decide +kernel, by decide +kernel⟩
abbrev N_law_cell : List Str := ["script", "k"]
theorem sc_law_cell : FnScope N_law_cell ["script", "k"] (defScope s_law_cell) := ⟨rfl, rfl, rfl, by decide +kernel, rfl, by decide +kernel, by decide +kernel⟩
abbrev N_law_draw : List Str := ["cell", "bases", "drawn", "rest", "base", "state"]
theorem sc_law_draw : FnScope N_law_draw ["cell", "bases"] (defScope s_law_draw) := ⟨rfl, rfl, rfl, by decide +kernel, rfl, by decide +kernel, by decide +kernel⟩
abbrev N_law_int : List Str := ["actual", "expected"]
theorem sc_law_int : FnScope N_law_int ["actual", "expected"] (defScope s_law_int) := ⟨rfl, rfl, rfl, by decide +kernel, rfl, by decide +kernel, by decide +kernel⟩
abbrev N_law_truth : List Str := ["actual", "expected"]
theorem sc_law_truth : FnScope N_law_truth ["actual", "expected"] (defScope s_law_truth) := ⟨rfl, rfl, rfl, by decide +kernel, rfl, by decide +kernel, by decide +kernel⟩
abbrev N_law_equal : List Str := ["actual", "expected", "k", "j"]
theorem sc_law_equal : FnScope N_law_equal ["actual", "expected"] (defScope s_law_equal) := ⟨rfl, rfl, rfl, by decide +kernel, rfl, by decide +kernel, by decide +kernel⟩
abbrev N_law_order : List Str := ["cell", "count", "left", "order", "digit", "k"]
theorem sc_law_order : FnScope N_law_order ["cell", "count"] (defScope s_law_order) := ⟨rfl, rfl, rfl, by decide +kernel, rfl, by decide +kernel, by decide +kernel⟩
abbrev N_law_spots : List Str := ["order", "spots", "k"]
theorem sc_law_spots : FnScope N_law_spots ["order"] (defScope s_law_spots) := ⟨rfl, rfl, rfl, by decide +kernel, rfl, by decide +kernel, by decide +kernel⟩
abbrev N_law_facts : List Str := ["cell", "many", "order", "agree", "count", "drawn", "spots", "facts", "k", "one", "other"]
theorem sc_law_facts : FnScope N_law_facts ["cell", "many", "order", "agree"] (defScope s_law_facts) := ⟨rfl, rfl, rfl, by decide +kernel, rfl, by decide +kernel, by decide +kernel⟩
abbrev N_law_is_order : List Str := ["setting", "count", "facts", "spots", "k", "fact"]
theorem sc_law_is_order : FnScope N_law_is_order ["setting", "count", "facts"] (defScope s_law_is_order) := ⟨rfl, rfl, rfl, by decide +kernel, rfl, by decide +kernel, by decide +kernel⟩
abbrev N_law_swapped : List Str := ["order", "k", "j", "values"]
theorem sc_law_swapped : FnScope N_law_swapped ["order", "k", "j"] (defScope s_law_swapped) := ⟨rfl, rfl, rfl, by decide +kernel, rfl, by decide +kernel, by decide +kernel⟩
abbrev N_law_is_change : List Str := ["first", "second", "count", "facts", "k"]
theorem sc_law_is_change : FnScope N_law_is_change ["first", "second", "count", "facts"] (defScope s_law_is_change) := ⟨rfl, rfl, rfl, by decide +kernel, rfl, by decide +kernel, by decide +kernel⟩
abbrev N_law_next : List Str := ["order", "count", "facts", "found", "k", "other"]
theorem sc_law_next : FnScope N_law_next ["order", "count", "facts"] (defScope s_law_next) := ⟨rfl, rfl, rfl, by decide +kernel, rfl, by decide +kernel, by decide +kernel⟩
abbrev N_law_unlike : List Str := ["first", "second", "before", "after", "found", "one", "other"]
theorem sc_law_unlike : FnScope N_law_unlike ["first", "second"] (defScope s_law_unlike) := ⟨rfl, rfl, rfl, by decide +kernel, rfl, by decide +kernel, by decide +kernel⟩
abbrev N_law_settings : List Str := ["order", "second", "at", "count", "found", "k"]
theorem sc_law_settings : FnScope N_law_settings ["order", "second", "at"] (defScope s_law_settings) := ⟨rfl, rfl, rfl, by decide +kernel, rfl, by decide +kernel, by decide +kernel⟩
abbrev N_law_doors_stand : List Str := ["world", "settings", "count", "facts", "order", "setting", "due", "part", "k"]
theorem sc_law_doors_stand : FnScope N_law_doors_stand ["world", "settings", "count", "facts"] (defScope s_law_doors_stand) := ⟨rfl, rfl, rfl, by decide +kernel, rfl, by decide +kernel, by decide +kernel⟩
abbrev N_law_refused : List Str := ["count", "facts", "index", "e"]
theorem sc_law_refused : FnScope N_law_refused ["count", "facts", "index"] (defScope s_law_refused) := ⟨rfl, rfl, rfl, by decide +kernel, rfl, by decide +kernel, by decide +kernel⟩
abbrev N_law_wrong_fact : List Str := ["count", "choice", "k"]
theorem sc_law_wrong_fact : FnScope N_law_wrong_fact ["count", "choice", "k"] (defScope s_law_wrong_fact) := ⟨rfl, rfl, rfl, by decide +kernel, rfl, by decide +kernel, by decide +kernel⟩
abbrev N_law : List Str := ["script", "shape", "count", "many", "order", "second", "facts", "given", "world", "kept", "fact", "at", "wrong", "pair"]
theorem sc_law : FnScope N_law ["script"] (defScope s_law) := ⟨rfl, rfl, rfl, by decide +kernel, rfl, by decide +kernel, by decide +kernel⟩
structure Ad where
  C_StepError : Addr
  C_BadWeb : Addr
  f_BadWebw_initw : Addr
  d_BadWebw_initw : FuncData
  k_BadWebw_initw : Addr
  c_BadWebw_initw : Addr
  C_BadWorld : Addr
  f_BadWorldw_initw : Addr
  d_BadWorldw_initw : FuncData
  k_BadWorldw_initw : Addr
  c_BadWorldw_initw : Addr
  C_World : Addr
  C_Orders : Addr
  f_unlike : Addr
  d_unlike : FuncData
  f_Worldw_initw : Addr
  d_Worldw_initw : FuncData
  f_World_is_answer : Addr
  d_World_is_answer : FuncData
  f_World_is_change : Addr
  d_World_is_change : FuncData
  f_World_next_answers : Addr
  d_World_next_answers : FuncData
  f_World_blocked : Addr
  d_World_blocked : FuncData
  f_Ordersw_initw : Addr
  d_Ordersw_initw : FuncData
  k_Ordersw_initw : Addr
  c_Ordersw_initw : Addr
  f_Orders_is_answer : Addr
  d_Orders_is_answer : FuncData
  f_Orders_is_change : Addr
  d_Orders_is_change : FuncData
  f_Orders_next_answers : Addr
  d_Orders_next_answers : FuncData
  f_Orders_blocked : Addr
  d_Orders_blocked : FuncData
  f_spots_of : Addr
  d_spots_of : FuncData
  f_exchanged : Addr
  d_exchanged : FuncData
  f_unlike_pairs : Addr
  d_unlike_pairs : FuncData
  f_law_cell : Addr
  d_law_cell : FuncData
  f_law_draw : Addr
  d_law_draw : FuncData
  f_law_int : Addr
  d_law_int : FuncData
  f_law_truth : Addr
  d_law_truth : FuncData
  f_law_equal : Addr
  d_law_equal : FuncData
  f_law_order : Addr
  d_law_order : FuncData
  f_law_spots : Addr
  d_law_spots : FuncData
  f_law_facts : Addr
  d_law_facts : FuncData
  f_law_is_order : Addr
  d_law_is_order : FuncData
  f_law_swapped : Addr
  d_law_swapped : FuncData
  f_law_is_change : Addr
  d_law_is_change : FuncData
  f_law_next : Addr
  d_law_next : FuncData
  f_law_unlike : Addr
  d_law_unlike : FuncData
  f_law_settings : Addr
  d_law_settings : FuncData
  f_law_doors_stand : Addr
  d_law_doors_stand : FuncData
  f_law_refused : Addr
  d_law_refused : FuncData
  f_law_wrong_fact : Addr
  d_law_wrong_fact : FuncData
  f_law : Addr
  d_law : FuncData
structure Txt (P : Program) (K : PySem.W.Frag) (mg : Str → Option Value) (a : Ad) : Prop where
  z_ValueError : mg "ValueError" = none
  z_all : mg "all" = none
  z_any : mg "any" = none
  z_bool : mg "bool" = none
  z_enumerate : mg "enumerate" = none
  z_int : mg "int" = none
  z_isinstance : mg "isinstance" = none
  z_len : mg "len" = none
  z_list : mg "list" = none
  z_max : mg "max" = none
  z_min : mg "min" = none
  z_range : mg "range" = none
  z_set : mg "set" = none
  z_sorted : mg "sorted" = none
  z_super : mg "super" = none
  z_tuple : mg "tuple" = none
  m_MOST_THINGS : ∃ t, mg "MOST_THINGS" = some (.int 9 t)
  m_MOST_FACTS : ∃ t, mg "MOST_FACTS" = some (.int 36 t)
  m_StepError : mg "StepError" = some (.ref a.C_StepError)
  xc_StepError : ExcC K a.C_StepError
  xf_StepError : XfC K a.C_StepError
  m_BadWeb : mg "BadWeb" = some (.ref a.C_BadWeb)
  xc_BadWeb : ExcC K a.C_BadWeb
  xf_BadWeb : XfC K a.C_BadWeb
  F_BadWebw_initw : SupF P K mg "__init__" "BadWeb.__init__" s_BadWebw_initw a.f_BadWebw_initw a.k_BadWebw_initw a.c_BadWebw_initw a.C_BadWeb a.d_BadWebw_initw
  S_BadWebw_initw : SupE K a.C_BadWeb a.C_BadWeb
  b_BadWebw_initw : Binds K a.d_BadWebw_initw ["self", "index"] []
  i_BadWebw_initw : PySem.W.findIn K (.ref a.C_BadWeb) "__init__" = some (some (.ref a.f_BadWebw_initw))
  ti_BadWebw_initw : PySem.W.typeIn K (.ref a.f_BadWebw_initw) = some (.type "function")
  nf_BadWeb_index : PySem.W.findIn K (.ref a.C_BadWeb) "index" = some none
  m_BadWorld : mg "BadWorld" = some (.ref a.C_BadWorld)
  xc_BadWorld : ExcC K a.C_BadWorld
  xf_BadWorld : XfC K a.C_BadWorld
  F_BadWorldw_initw : SupF P K mg "__init__" "BadWorld.__init__" s_BadWorldw_initw a.f_BadWorldw_initw a.k_BadWorldw_initw a.c_BadWorldw_initw a.C_BadWorld a.d_BadWorldw_initw
  S_BadWorldw_initw : SupE K a.C_BadWorld a.C_BadWorld
  b_BadWorldw_initw : Binds K a.d_BadWorldw_initw ["self", "index"] []
  i_BadWorldw_initw : PySem.W.findIn K (.ref a.C_BadWorld) "__init__" = some (some (.ref a.f_BadWorldw_initw))
  ti_BadWorldw_initw : PySem.W.typeIn K (.ref a.f_BadWorldw_initw) = some (.type "function")
  nf_BadWorld_index : PySem.W.findIn K (.ref a.C_BadWorld) "index" = some none
  m_World : mg "World" = some (.ref a.C_World)
  cl_World : Cls K a.C_World
  ty_World : ∀ (H : Hp) (x dx : Addr) (fs : List (Str × V)), H x = some (.ins a.C_World dx fs) → TyX K H (.ref x) (.ref a.C_World)
  na_World_size : NoAttr K a.C_World "size"
  m_Orders : mg "Orders" = some (.ref a.C_Orders)
  cl_Orders : Cls K a.C_Orders
  ty_Orders : ∀ (H : Hp) (x dx : Addr) (fs : List (Str × V)), H x = some (.ins a.C_Orders dx fs) → TyX K H (.ref x) (.ref a.C_Orders)
  na_Orders_count : NoAttr K a.C_Orders "count"
  na_Orders_facts : NoAttr K a.C_Orders "facts"
  na_Orders_size : NoAttr K a.C_Orders "size"
  m_unlike : mg "unlike" = some (.ref a.f_unlike)
  F_unlike : Fun K "unlike" "unlike" s_unlike a.f_unlike a.d_unlike
  b_unlike : Binds K a.d_unlike ["first", "second"] []
  F_Worldw_initw : Fun K "__init__" "World.__init__" s_Worldw_initw a.f_Worldw_initw a.d_Worldw_initw
  b_Worldw_initw : Binds K a.d_Worldw_initw ["self", "size"] []
  mk_World : Mk K a.C_World a.f_Worldw_initw
  F_World_is_answer : Fun K "is_answer" "World.is_answer" s_World_is_answer a.f_World_is_answer a.d_World_is_answer
  b_World_is_answer : Binds K a.d_World_is_answer ["self", "setting"] []
  me_World_is_answer : Meth K a.C_World "is_answer" a.f_World_is_answer
  F_World_is_change : Fun K "is_change" "World.is_change" s_World_is_change a.f_World_is_change a.d_World_is_change
  b_World_is_change : Binds K a.d_World_is_change ["self", "first", "second"] []
  me_World_is_change : Meth K a.C_World "is_change" a.f_World_is_change
  F_World_next_answers : Fun K "next_answers" "World.next_answers" s_World_next_answers a.f_World_next_answers a.d_World_next_answers
  b_World_next_answers : Binds K a.d_World_next_answers ["self", "setting"] []
  me_World_next_answers : Meth K a.C_World "next_answers" a.f_World_next_answers
  F_World_blocked : Fun K "blocked" "World.blocked" s_World_blocked a.f_World_blocked a.d_World_blocked
  b_World_blocked : Binds K a.d_World_blocked ["self", "setting", "parts", "part"] []
  me_World_blocked : Meth K a.C_World "blocked" a.f_World_blocked
  mk_Orders : Mk K a.C_Orders a.f_Ordersw_initw
  F_Ordersw_initw : SupF P K mg "__init__" "Orders.__init__" s_Ordersw_initw a.f_Ordersw_initw a.k_Ordersw_initw a.c_Ordersw_initw a.C_Orders a.d_Ordersw_initw
  S_Ordersw_initw : SupM K a.C_Orders a.C_Orders a.f_Worldw_initw
  b_Ordersw_initw : Binds K a.d_Ordersw_initw ["self", "count", "facts"] []
  F_Orders_is_answer : Fun K "is_answer" "Orders.is_answer" s_Orders_is_answer a.f_Orders_is_answer a.d_Orders_is_answer
  b_Orders_is_answer : Binds K a.d_Orders_is_answer ["self", "setting"] []
  me_Orders_is_answer : Meth K a.C_Orders "is_answer" a.f_Orders_is_answer
  F_Orders_is_change : Fun K "is_change" "Orders.is_change" s_Orders_is_change a.f_Orders_is_change a.d_Orders_is_change
  b_Orders_is_change : Binds K a.d_Orders_is_change ["self", "first", "second"] []
  me_Orders_is_change : Meth K a.C_Orders "is_change" a.f_Orders_is_change
  F_Orders_next_answers : Fun K "next_answers" "Orders.next_answers" s_Orders_next_answers a.f_Orders_next_answers a.d_Orders_next_answers
  b_Orders_next_answers : Binds K a.d_Orders_next_answers ["self", "setting"] []
  me_Orders_next_answers : Meth K a.C_Orders "next_answers" a.f_Orders_next_answers
  F_Orders_blocked : Fun K "blocked" "Orders.blocked" s_Orders_blocked a.f_Orders_blocked a.d_Orders_blocked
  b_Orders_blocked : Binds K a.d_Orders_blocked ["self", "setting", "parts", "part"] []
  me_Orders_blocked : Meth K a.C_Orders "blocked" a.f_Orders_blocked
  m_spots_of : mg "spots_of" = some (.ref a.f_spots_of)
  F_spots_of : Fun K "spots_of" "spots_of" s_spots_of a.f_spots_of a.d_spots_of
  b_spots_of : Binds K a.d_spots_of ["setting"] []
  m_exchanged : mg "exchanged" = some (.ref a.f_exchanged)
  F_exchanged : Fun K "exchanged" "exchanged" s_exchanged a.f_exchanged a.d_exchanged
  b_exchanged : Binds K a.d_exchanged ["setting", "spot"] []
  m_unlike_pairs : mg "unlike_pairs" = some (.ref a.f_unlike_pairs)
  F_unlike_pairs : Fun K "unlike_pairs" "unlike_pairs" s_unlike_pairs a.f_unlike_pairs a.d_unlike_pairs
  b_unlike_pairs : Binds K a.d_unlike_pairs ["first", "second"] []
  m__law_cell : mg "_law_cell" = some (.ref a.f_law_cell)
  F_law_cell : Fun K "_law_cell" "_law_cell" s_law_cell a.f_law_cell a.d_law_cell
  b_law_cell : Binds K a.d_law_cell ["script", "k"] []
  m__law_draw : mg "_law_draw" = some (.ref a.f_law_draw)
  F_law_draw : Fun K "_law_draw" "_law_draw" s_law_draw a.f_law_draw a.d_law_draw
  b_law_draw : Binds K a.d_law_draw ["cell", "bases"] []
  m__law_int : mg "_law_int" = some (.ref a.f_law_int)
  F_law_int : Fun K "_law_int" "_law_int" s_law_int a.f_law_int a.d_law_int
  b_law_int : Binds K a.d_law_int ["actual", "expected"] []
  m__law_truth : mg "_law_truth" = some (.ref a.f_law_truth)
  F_law_truth : Fun K "_law_truth" "_law_truth" s_law_truth a.f_law_truth a.d_law_truth
  b_law_truth : Binds K a.d_law_truth ["actual", "expected"] []
  m__law_equal : mg "_law_equal" = some (.ref a.f_law_equal)
  F_law_equal : Fun K "_law_equal" "_law_equal" s_law_equal a.f_law_equal a.d_law_equal
  b_law_equal : Binds K a.d_law_equal ["actual", "expected"] []
  m__law_order : mg "_law_order" = some (.ref a.f_law_order)
  F_law_order : Fun K "_law_order" "_law_order" s_law_order a.f_law_order a.d_law_order
  b_law_order : Binds K a.d_law_order ["cell", "count"] []
  m__law_spots : mg "_law_spots" = some (.ref a.f_law_spots)
  F_law_spots : Fun K "_law_spots" "_law_spots" s_law_spots a.f_law_spots a.d_law_spots
  b_law_spots : Binds K a.d_law_spots ["order"] []
  m__law_facts : mg "_law_facts" = some (.ref a.f_law_facts)
  F_law_facts : Fun K "_law_facts" "_law_facts" s_law_facts a.f_law_facts a.d_law_facts
  b_law_facts : Binds K a.d_law_facts ["cell", "many", "order", "agree"] []
  m__law_is_order : mg "_law_is_order" = some (.ref a.f_law_is_order)
  F_law_is_order : Fun K "_law_is_order" "_law_is_order" s_law_is_order a.f_law_is_order a.d_law_is_order
  b_law_is_order : Binds K a.d_law_is_order ["setting", "count", "facts"] []
  m__law_swapped : mg "_law_swapped" = some (.ref a.f_law_swapped)
  F_law_swapped : Fun K "_law_swapped" "_law_swapped" s_law_swapped a.f_law_swapped a.d_law_swapped
  b_law_swapped : Binds K a.d_law_swapped ["order", "k", "j"] []
  m__law_is_change : mg "_law_is_change" = some (.ref a.f_law_is_change)
  F_law_is_change : Fun K "_law_is_change" "_law_is_change" s_law_is_change a.f_law_is_change a.d_law_is_change
  b_law_is_change : Binds K a.d_law_is_change ["first", "second", "count", "facts"] []
  m__law_next : mg "_law_next" = some (.ref a.f_law_next)
  F_law_next : Fun K "_law_next" "_law_next" s_law_next a.f_law_next a.d_law_next
  b_law_next : Binds K a.d_law_next ["order", "count", "facts"] []
  m__law_unlike : mg "_law_unlike" = some (.ref a.f_law_unlike)
  F_law_unlike : Fun K "_law_unlike" "_law_unlike" s_law_unlike a.f_law_unlike a.d_law_unlike
  b_law_unlike : Binds K a.d_law_unlike ["first", "second"] []
  m__law_settings : mg "_law_settings" = some (.ref a.f_law_settings)
  F_law_settings : Fun K "_law_settings" "_law_settings" s_law_settings a.f_law_settings a.d_law_settings
  b_law_settings : Binds K a.d_law_settings ["order", "second", "at"] []
  m__law_doors_stand : mg "_law_doors_stand" = some (.ref a.f_law_doors_stand)
  F_law_doors_stand : Fun K "_law_doors_stand" "_law_doors_stand" s_law_doors_stand a.f_law_doors_stand a.d_law_doors_stand
  b_law_doors_stand : Binds K a.d_law_doors_stand ["world", "settings", "count", "facts"] []
  m__law_refused : mg "_law_refused" = some (.ref a.f_law_refused)
  F_law_refused : Fun K "_law_refused" "_law_refused" s_law_refused a.f_law_refused a.d_law_refused
  b_law_refused : Binds K a.d_law_refused ["count", "facts", "index"] []
  m__law_wrong_fact : mg "_law_wrong_fact" = some (.ref a.f_law_wrong_fact)
  F_law_wrong_fact : Fun K "_law_wrong_fact" "_law_wrong_fact" s_law_wrong_fact a.f_law_wrong_fact a.d_law_wrong_fact
  b_law_wrong_fact : Binds K a.d_law_wrong_fact ["count", "choice", "k"] []
  m_law : mg "law" = some (.ref a.f_law)
  F_law : Fun K "law" "law" s_law a.f_law a.d_law
  b_law : Binds K a.d_law ["script"] []
  kit_Orders_World : PySem.W.kitOne K (.ref a.C_Orders) (.ref a.C_World) = some true
  kit_BadWorld_StepError : PySem.W.kitOne K (.ref a.C_BadWorld) (.ref a.C_StepError) = some true
  kit_BadWorld_ValueError : PySem.W.kitOne K (.ref a.C_BadWorld) (.type "ValueError") = some true
  kit_BadWorld_BadWeb : PySem.W.kitOne K (.ref a.C_BadWorld) (.ref a.C_BadWeb) = some false
  exm_BadWorld_BadWorld : PySem.W.exmOne K (.ref a.C_BadWorld) (.ref a.C_BadWorld) = some true
theorem all_mk {P : Program} {K : PySem.W.Frag} {h : Heap} {mg : Str → Option Value} (X : K.In h) (G : h.Ns mainGlobals mg)
  {t_MOST_THINGS : Tok}
  {t_MOST_FACTS : Tok}
  {C_StepError : Addr}
  {C_BadWeb : Addr}
  {f_BadWebw_initw k_BadWebw_initw c_BadWebw_initw : Addr}
  {oc_BadWebw_initw dc_BadWebw_initw pm_BadWebw_initw ct_BadWebw_initw ccl_BadWebw_initw cl_BadWebw_initw : Value} {od_BadWebw_initw an_BadWebw_initw cdd_BadWebw_initw cld_BadWebw_initw : Option Addr} {sl_BadWebw_initw ccs_BadWebw_initw csl_BadWebw_initw : Array (Option Value)} {vs_BadWebw_initw : Array Value} {file_BadWebw_initw : Str} {tf_BadWebw_initw : Tok}
  {nm_BadWebw_initw qn_BadWebw_initw : Str} {Nn_BadWebw_initw : Addr} {bs_BadWebw_initw sub_BadWebw_initw : List Value} {sn_BadWebw_initw : List Str} {ab_BadWebw_initw : Bool} {col_BadWebw_initw : Option Bool} {dd_BadWebw_initw : Option Addr} {k0_BadWebw_initw k1_BadWebw_initw k2_BadWebw_initw k3_BadWebw_initw k5_BadWebw_initw : Option Value}
  {C_BadWorld : Addr}
  {f_BadWorldw_initw k_BadWorldw_initw c_BadWorldw_initw : Addr}
  {oc_BadWorldw_initw dc_BadWorldw_initw pm_BadWorldw_initw ct_BadWorldw_initw ccl_BadWorldw_initw cl_BadWorldw_initw : Value} {od_BadWorldw_initw an_BadWorldw_initw cdd_BadWorldw_initw cld_BadWorldw_initw : Option Addr} {sl_BadWorldw_initw ccs_BadWorldw_initw csl_BadWorldw_initw : Array (Option Value)} {vs_BadWorldw_initw : Array Value} {file_BadWorldw_initw : Str} {tf_BadWorldw_initw : Tok}
  {nm_BadWorldw_initw qn_BadWorldw_initw : Str} {Nn_BadWorldw_initw : Addr} {bs_BadWorldw_initw sub_BadWorldw_initw : List Value} {sn_BadWorldw_initw : List Str} {ab_BadWorldw_initw : Bool} {col_BadWorldw_initw : Option Bool} {dd_BadWorldw_initw : Option Addr} {k0_BadWorldw_initw k1_BadWorldw_initw k2_BadWorldw_initw k3_BadWorldw_initw k5_BadWorldw_initw : Option Value}
  {C_World : Addr}
  {C_Orders : Addr}
  {f_unlike : Addr} {oc_unlike kV_unlike dc_unlike pm_unlike cd_unlike ct_unlike : Value} {od_unlike an_unlike : Option Addr} {sl_unlike : Array (Option Value)}
  {f_Worldw_initw : Addr} {oc_Worldw_initw kV_Worldw_initw dc_Worldw_initw pm_Worldw_initw cd_Worldw_initw ct_Worldw_initw : Value} {od_Worldw_initw an_Worldw_initw : Option Addr} {sl_Worldw_initw : Array (Option Value)}
  {f_World_is_answer : Addr} {oc_World_is_answer kV_World_is_answer dc_World_is_answer pm_World_is_answer cd_World_is_answer ct_World_is_answer : Value} {od_World_is_answer an_World_is_answer : Option Addr} {sl_World_is_answer : Array (Option Value)}
  {f_World_is_change : Addr} {oc_World_is_change kV_World_is_change dc_World_is_change pm_World_is_change cd_World_is_change ct_World_is_change : Value} {od_World_is_change an_World_is_change : Option Addr} {sl_World_is_change : Array (Option Value)}
  {f_World_next_answers : Addr} {oc_World_next_answers kV_World_next_answers dc_World_next_answers pm_World_next_answers cd_World_next_answers ct_World_next_answers : Value} {od_World_next_answers an_World_next_answers : Option Addr} {sl_World_next_answers : Array (Option Value)}
  {f_World_blocked : Addr} {oc_World_blocked kV_World_blocked dc_World_blocked pm_World_blocked cd_World_blocked ct_World_blocked : Value} {od_World_blocked an_World_blocked : Option Addr} {sl_World_blocked : Array (Option Value)}
  {f_Ordersw_initw k_Ordersw_initw c_Ordersw_initw : Addr}
  {oc_Ordersw_initw dc_Ordersw_initw pm_Ordersw_initw ct_Ordersw_initw ccl_Ordersw_initw cl_Ordersw_initw : Value} {od_Ordersw_initw an_Ordersw_initw cdd_Ordersw_initw cld_Ordersw_initw : Option Addr} {sl_Ordersw_initw ccs_Ordersw_initw csl_Ordersw_initw : Array (Option Value)} {vs_Ordersw_initw : Array Value} {file_Ordersw_initw : Str} {tf_Ordersw_initw : Tok}
  {f_Orders_is_answer : Addr} {oc_Orders_is_answer kV_Orders_is_answer dc_Orders_is_answer pm_Orders_is_answer cd_Orders_is_answer ct_Orders_is_answer : Value} {od_Orders_is_answer an_Orders_is_answer : Option Addr} {sl_Orders_is_answer : Array (Option Value)}
  {f_Orders_is_change : Addr} {oc_Orders_is_change kV_Orders_is_change dc_Orders_is_change pm_Orders_is_change cd_Orders_is_change ct_Orders_is_change : Value} {od_Orders_is_change an_Orders_is_change : Option Addr} {sl_Orders_is_change : Array (Option Value)}
  {f_Orders_next_answers : Addr} {oc_Orders_next_answers kV_Orders_next_answers dc_Orders_next_answers pm_Orders_next_answers cd_Orders_next_answers ct_Orders_next_answers : Value} {od_Orders_next_answers an_Orders_next_answers : Option Addr} {sl_Orders_next_answers : Array (Option Value)}
  {f_Orders_blocked : Addr} {oc_Orders_blocked kV_Orders_blocked dc_Orders_blocked pm_Orders_blocked cd_Orders_blocked ct_Orders_blocked : Value} {od_Orders_blocked an_Orders_blocked : Option Addr} {sl_Orders_blocked : Array (Option Value)}
  {f_spots_of : Addr} {oc_spots_of kV_spots_of dc_spots_of pm_spots_of cd_spots_of ct_spots_of : Value} {od_spots_of an_spots_of : Option Addr} {sl_spots_of : Array (Option Value)}
  {f_exchanged : Addr} {oc_exchanged kV_exchanged dc_exchanged pm_exchanged cd_exchanged ct_exchanged : Value} {od_exchanged an_exchanged : Option Addr} {sl_exchanged : Array (Option Value)}
  {f_unlike_pairs : Addr} {oc_unlike_pairs kV_unlike_pairs dc_unlike_pairs pm_unlike_pairs cd_unlike_pairs ct_unlike_pairs : Value} {od_unlike_pairs an_unlike_pairs : Option Addr} {sl_unlike_pairs : Array (Option Value)}
  {f_law_cell : Addr} {oc_law_cell kV_law_cell dc_law_cell pm_law_cell cd_law_cell ct_law_cell : Value} {od_law_cell an_law_cell : Option Addr} {sl_law_cell : Array (Option Value)}
  {f_law_draw : Addr} {oc_law_draw kV_law_draw dc_law_draw pm_law_draw cd_law_draw ct_law_draw : Value} {od_law_draw an_law_draw : Option Addr} {sl_law_draw : Array (Option Value)}
  {f_law_int : Addr} {oc_law_int kV_law_int dc_law_int pm_law_int cd_law_int ct_law_int : Value} {od_law_int an_law_int : Option Addr} {sl_law_int : Array (Option Value)}
  {f_law_truth : Addr} {oc_law_truth kV_law_truth dc_law_truth pm_law_truth cd_law_truth ct_law_truth : Value} {od_law_truth an_law_truth : Option Addr} {sl_law_truth : Array (Option Value)}
  {f_law_equal : Addr} {oc_law_equal kV_law_equal dc_law_equal pm_law_equal cd_law_equal ct_law_equal : Value} {od_law_equal an_law_equal : Option Addr} {sl_law_equal : Array (Option Value)}
  {f_law_order : Addr} {oc_law_order kV_law_order dc_law_order pm_law_order cd_law_order ct_law_order : Value} {od_law_order an_law_order : Option Addr} {sl_law_order : Array (Option Value)}
  {f_law_spots : Addr} {oc_law_spots kV_law_spots dc_law_spots pm_law_spots cd_law_spots ct_law_spots : Value} {od_law_spots an_law_spots : Option Addr} {sl_law_spots : Array (Option Value)}
  {f_law_facts : Addr} {oc_law_facts kV_law_facts dc_law_facts pm_law_facts cd_law_facts ct_law_facts : Value} {od_law_facts an_law_facts : Option Addr} {sl_law_facts : Array (Option Value)}
  {f_law_is_order : Addr} {oc_law_is_order kV_law_is_order dc_law_is_order pm_law_is_order cd_law_is_order ct_law_is_order : Value} {od_law_is_order an_law_is_order : Option Addr} {sl_law_is_order : Array (Option Value)}
  {f_law_swapped : Addr} {oc_law_swapped kV_law_swapped dc_law_swapped pm_law_swapped cd_law_swapped ct_law_swapped : Value} {od_law_swapped an_law_swapped : Option Addr} {sl_law_swapped : Array (Option Value)}
  {f_law_is_change : Addr} {oc_law_is_change kV_law_is_change dc_law_is_change pm_law_is_change cd_law_is_change ct_law_is_change : Value} {od_law_is_change an_law_is_change : Option Addr} {sl_law_is_change : Array (Option Value)}
  {f_law_next : Addr} {oc_law_next kV_law_next dc_law_next pm_law_next cd_law_next ct_law_next : Value} {od_law_next an_law_next : Option Addr} {sl_law_next : Array (Option Value)}
  {f_law_unlike : Addr} {oc_law_unlike kV_law_unlike dc_law_unlike pm_law_unlike cd_law_unlike ct_law_unlike : Value} {od_law_unlike an_law_unlike : Option Addr} {sl_law_unlike : Array (Option Value)}
  {f_law_settings : Addr} {oc_law_settings kV_law_settings dc_law_settings pm_law_settings cd_law_settings ct_law_settings : Value} {od_law_settings an_law_settings : Option Addr} {sl_law_settings : Array (Option Value)}
  {f_law_doors_stand : Addr} {oc_law_doors_stand kV_law_doors_stand dc_law_doors_stand pm_law_doors_stand cd_law_doors_stand ct_law_doors_stand : Value} {od_law_doors_stand an_law_doors_stand : Option Addr} {sl_law_doors_stand : Array (Option Value)}
  {f_law_refused : Addr} {oc_law_refused kV_law_refused dc_law_refused pm_law_refused cd_law_refused ct_law_refused : Value} {od_law_refused an_law_refused : Option Addr} {sl_law_refused : Array (Option Value)}
  {f_law_wrong_fact : Addr} {oc_law_wrong_fact kV_law_wrong_fact dc_law_wrong_fact pm_law_wrong_fact cd_law_wrong_fact ct_law_wrong_fact : Value} {od_law_wrong_fact an_law_wrong_fact : Option Addr} {sl_law_wrong_fact : Array (Option Value)}
  {f_law : Addr} {oc_law kV_law dc_law pm_law cd_law ct_law : Value} {od_law an_law : Option Addr} {sl_law : Array (Option Value)}
  (z_ValueError : PySem.W.nsIn K mainGlobals "ValueError" = some none)
  (z_all : PySem.W.nsIn K mainGlobals "all" = some none)
  (z_any : PySem.W.nsIn K mainGlobals "any" = some none)
  (z_bool : PySem.W.nsIn K mainGlobals "bool" = some none)
  (z_enumerate : PySem.W.nsIn K mainGlobals "enumerate" = some none)
  (z_int : PySem.W.nsIn K mainGlobals "int" = some none)
  (z_isinstance : PySem.W.nsIn K mainGlobals "isinstance" = some none)
  (z_len : PySem.W.nsIn K mainGlobals "len" = some none)
  (z_list : PySem.W.nsIn K mainGlobals "list" = some none)
  (z_max : PySem.W.nsIn K mainGlobals "max" = some none)
  (z_min : PySem.W.nsIn K mainGlobals "min" = some none)
  (z_range : PySem.W.nsIn K mainGlobals "range" = some none)
  (z_set : PySem.W.nsIn K mainGlobals "set" = some none)
  (z_sorted : PySem.W.nsIn K mainGlobals "sorted" = some none)
  (z_super : PySem.W.nsIn K mainGlobals "super" = some none)
  (z_tuple : PySem.W.nsIn K mainGlobals "tuple" = some none)
  (m_MOST_THINGS : PySem.W.nsIn K mainGlobals "MOST_THINGS" = some (some (.int 9 t_MOST_THINGS)))
  (m_MOST_FACTS : PySem.W.nsIn K mainGlobals "MOST_FACTS" = some (some (.int 36 t_MOST_FACTS)))
  (m_StepError : PySem.W.nsIn K mainGlobals "StepError" = some (some (.ref C_StepError)))
  (hg_StepError : PySem.W.findIn K (.ref C_StepError) "__getattribute__" = some (some (.builtin "BaseException.__getattribute__")))
  (hk_StepError : PySem.W.findIn K (.ref C_StepError) "__getattr__" = some none)
  (hs_StepError : PySem.W.subIn K (.ref C_StepError) (.type "BaseException") = some true)
  (hd_StepError : PySem.W.hasDictIn K C_StepError = true)
  (ha_StepError : PySem.W.findIn K (.ref C_StepError) "__class__" = some (some (.builtin "object.__class__")))
  (hm_StepError : PySem.W.mroIn K C_StepError (.type "object") = some true)
  (m_BadWeb : PySem.W.nsIn K mainGlobals "BadWeb" = some (some (.ref C_BadWeb)))
  (hg_BadWeb : PySem.W.findIn K (.ref C_BadWeb) "__getattribute__" = some (some (.builtin "BaseException.__getattribute__")))
  (hk_BadWeb : PySem.W.findIn K (.ref C_BadWeb) "__getattr__" = some none)
  (hs_BadWeb : PySem.W.subIn K (.ref C_BadWeb) (.type "BaseException") = some true)
  (hd_BadWeb : PySem.W.hasDictIn K C_BadWeb = true)
  (ha_BadWeb : PySem.W.findIn K (.ref C_BadWeb) "__class__" = some (some (.builtin "object.__class__")))
  (hm_BadWeb : PySem.W.mroIn K C_BadWeb (.type "object") = some true)
  (x_BadWebw_initw : K.lookup C_BadWeb = some (excClassObj nm_BadWebw_initw qn_BadWebw_initw C_BadWeb Nn_BadWebw_initw bs_BadWebw_initw [(.ref C_StepError), (.type "ValueError"), (.type "Exception"), (.type "BaseException"), (.type "object")] true sn_BadWebw_initw sub_BadWebw_initw ab_BadWebw_initw col_BadWebw_initw dd_BadWebw_initw k0_BadWebw_initw k1_BadWebw_initw k2_BadWebw_initw k3_BadWebw_initw k5_BadWebw_initw "ValueError.__new__"))
  (rv_BadWebw_initw : PySem.HandSPX.refsVE [(.ref C_StepError), (.type "ValueError"), (.type "Exception"), (.type "BaseException"), (.type "object")] = true)
  (i_BadWebw_initw : PySem.W.findIn K (.ref C_BadWeb) "__init__" = some (some (.ref f_BadWebw_initw)))
  (l_BadWebw_initw : K.lookup f_BadWebw_initw = some ⟨oc_BadWebw_initw, od_BadWebw_initw, .func (PySem.W.ksFn "__init__" "BadWeb.__init__" (defArgs s_BadWebw_initw) (defBody s_BadWebw_initw) (defScope s_BadWebw_initw) .none .none dc_BadWebw_initw pm_BadWebw_initw an_BadWebw_initw (.ref k_BadWebw_initw) ct_BadWebw_initw c_BadWebw_initw), sl_BadWebw_initw⟩)
  (cd_BadWebw_initw : PySem.W.codeIn K (.ref k_BadWebw_initw) "BadWeb.__init__" = true)
  (kc_BadWebw_initw : K.lookup k_BadWebw_initw = some ⟨ccl_BadWebw_initw, cdd_BadWebw_initw, .fields vs_BadWebw_initw, ccs_BadWebw_initw⟩)
  (kv_BadWebw_initw : vs_BadWebw_initw[2]? = some (.str file_BadWebw_initw tf_BadWebw_initw))
  (kf_BadWebw_initw : (P.main.file == file_BadWebw_initw) = true)
  (cc_BadWebw_initw : K.lookup c_BadWebw_initw = some ⟨cl_BadWebw_initw, cld_BadWebw_initw, .cell (some (.ref C_BadWeb)), csl_BadWebw_initw⟩)
  (kp_BadWebw_initw : PySem.W.keepIn K (.ref f_BadWebw_initw) = true)
  (ti_BadWebw_initw : PySem.W.typeIn K (.ref f_BadWebw_initw) = some (.type "function"))
  (ic_BadWebw_initw : PySem.W.isClsIn K C_BadWeb = true)
  (sa_BadWebw_initw : PySem.W.findIn K (.ref C_BadWeb) "__setattr__" = some (some (.builtin "object.__setattr__")))
  (ty_BadWebw_initw : PySem.W.typeIn K (.ref C_BadWeb) = some (.type "type"))
  (ke_BadWebw_initw : PySem.W.keepIn K (.ref C_BadWeb) = true)
  (su_BadWebw_initw : PySem.W.ks_superIn K C_BadWeb C_BadWeb "__init__" = some (some (.builtin "ValueError.__init__")))
  (ve_BadWebw_initw : PySem.W.subIn K (.ref C_BadWeb) (.type "ValueError") = some true)
  (mr_BadWebw_initw : PySem.W.mroIn K C_BadWeb (.ref C_BadWeb) = some true)
  (nf_BadWeb_index : PySem.W.findIn K (.ref C_BadWeb) "index" = some none)
  (m_BadWorld : PySem.W.nsIn K mainGlobals "BadWorld" = some (some (.ref C_BadWorld)))
  (hg_BadWorld : PySem.W.findIn K (.ref C_BadWorld) "__getattribute__" = some (some (.builtin "BaseException.__getattribute__")))
  (hk_BadWorld : PySem.W.findIn K (.ref C_BadWorld) "__getattr__" = some none)
  (hs_BadWorld : PySem.W.subIn K (.ref C_BadWorld) (.type "BaseException") = some true)
  (hd_BadWorld : PySem.W.hasDictIn K C_BadWorld = true)
  (ha_BadWorld : PySem.W.findIn K (.ref C_BadWorld) "__class__" = some (some (.builtin "object.__class__")))
  (hm_BadWorld : PySem.W.mroIn K C_BadWorld (.type "object") = some true)
  (x_BadWorldw_initw : K.lookup C_BadWorld = some (excClassObj nm_BadWorldw_initw qn_BadWorldw_initw C_BadWorld Nn_BadWorldw_initw bs_BadWorldw_initw [(.ref C_StepError), (.type "ValueError"), (.type "Exception"), (.type "BaseException"), (.type "object")] true sn_BadWorldw_initw sub_BadWorldw_initw ab_BadWorldw_initw col_BadWorldw_initw dd_BadWorldw_initw k0_BadWorldw_initw k1_BadWorldw_initw k2_BadWorldw_initw k3_BadWorldw_initw k5_BadWorldw_initw "ValueError.__new__"))
  (rv_BadWorldw_initw : PySem.HandSPX.refsVE [(.ref C_StepError), (.type "ValueError"), (.type "Exception"), (.type "BaseException"), (.type "object")] = true)
  (i_BadWorldw_initw : PySem.W.findIn K (.ref C_BadWorld) "__init__" = some (some (.ref f_BadWorldw_initw)))
  (l_BadWorldw_initw : K.lookup f_BadWorldw_initw = some ⟨oc_BadWorldw_initw, od_BadWorldw_initw, .func (PySem.W.ksFn "__init__" "BadWorld.__init__" (defArgs s_BadWorldw_initw) (defBody s_BadWorldw_initw) (defScope s_BadWorldw_initw) .none .none dc_BadWorldw_initw pm_BadWorldw_initw an_BadWorldw_initw (.ref k_BadWorldw_initw) ct_BadWorldw_initw c_BadWorldw_initw), sl_BadWorldw_initw⟩)
  (cd_BadWorldw_initw : PySem.W.codeIn K (.ref k_BadWorldw_initw) "BadWorld.__init__" = true)
  (kc_BadWorldw_initw : K.lookup k_BadWorldw_initw = some ⟨ccl_BadWorldw_initw, cdd_BadWorldw_initw, .fields vs_BadWorldw_initw, ccs_BadWorldw_initw⟩)
  (kv_BadWorldw_initw : vs_BadWorldw_initw[2]? = some (.str file_BadWorldw_initw tf_BadWorldw_initw))
  (kf_BadWorldw_initw : (P.main.file == file_BadWorldw_initw) = true)
  (cc_BadWorldw_initw : K.lookup c_BadWorldw_initw = some ⟨cl_BadWorldw_initw, cld_BadWorldw_initw, .cell (some (.ref C_BadWorld)), csl_BadWorldw_initw⟩)
  (kp_BadWorldw_initw : PySem.W.keepIn K (.ref f_BadWorldw_initw) = true)
  (ti_BadWorldw_initw : PySem.W.typeIn K (.ref f_BadWorldw_initw) = some (.type "function"))
  (ic_BadWorldw_initw : PySem.W.isClsIn K C_BadWorld = true)
  (sa_BadWorldw_initw : PySem.W.findIn K (.ref C_BadWorld) "__setattr__" = some (some (.builtin "object.__setattr__")))
  (ty_BadWorldw_initw : PySem.W.typeIn K (.ref C_BadWorld) = some (.type "type"))
  (ke_BadWorldw_initw : PySem.W.keepIn K (.ref C_BadWorld) = true)
  (su_BadWorldw_initw : PySem.W.ks_superIn K C_BadWorld C_BadWorld "__init__" = some (some (.builtin "ValueError.__init__")))
  (ve_BadWorldw_initw : PySem.W.subIn K (.ref C_BadWorld) (.type "ValueError") = some true)
  (mr_BadWorldw_initw : PySem.W.mroIn K C_BadWorld (.ref C_BadWorld) = some true)
  (nf_BadWorld_index : PySem.W.findIn K (.ref C_BadWorld) "index" = some none)
  (m_World : PySem.W.nsIn K mainGlobals "World" = some (some (.ref C_World)))
  (pg_World : PySem.W.plainGet K C_World Str.empty = true)
  (hd_World : PySem.W.hasDictIn K C_World = true)
  (po_World : PySem.W.plainOver K C_World = true)
  (sa_World : PySem.W.findIn K (.ref C_World) "__setattr__" = some (some (.builtin "object.__setattr__")))
  (ha_World : PySem.W.findIn K (.ref C_World) "__class__" = some (some (.builtin "object.__class__")))
  (hm_World : PySem.W.mroIn K C_World (.type "object") = some true)
  (na_World_size : PySem.W.findIn K (.ref C_World) "size" = some none)
  (m_Orders : PySem.W.nsIn K mainGlobals "Orders" = some (some (.ref C_Orders)))
  (pg_Orders : PySem.W.plainGet K C_Orders Str.empty = true)
  (hd_Orders : PySem.W.hasDictIn K C_Orders = true)
  (po_Orders : PySem.W.plainOver K C_Orders = true)
  (sa_Orders : PySem.W.findIn K (.ref C_Orders) "__setattr__" = some (some (.builtin "object.__setattr__")))
  (ha_Orders : PySem.W.findIn K (.ref C_Orders) "__class__" = some (some (.builtin "object.__class__")))
  (hm_Orders : PySem.W.mroIn K C_Orders (.type "object") = some true)
  (na_Orders_count : PySem.W.findIn K (.ref C_Orders) "count" = some none)
  (na_Orders_facts : PySem.W.findIn K (.ref C_Orders) "facts" = some none)
  (na_Orders_size : PySem.W.findIn K (.ref C_Orders) "size" = some none)
  (m_unlike : PySem.W.nsIn K mainGlobals "unlike" = some (some (.ref f_unlike)))
  (l_unlike : K.lookup f_unlike = some ⟨oc_unlike, od_unlike, .func (PySem.W.fnOf "unlike" "unlike" (defArgs s_unlike) (defBody s_unlike) (defScope s_unlike) .none kV_unlike dc_unlike pm_unlike an_unlike cd_unlike ct_unlike), sl_unlike⟩)
  (c_unlike : PySem.W.codeIn K cd_unlike "unlike" = true)
  (k_unlike : PySem.W.keepIn K (.ref f_unlike) = true)
  (me_Worldw_initw : PySem.W.findIn K (.ref C_World) "__init__" = some (some (.ref f_Worldw_initw)))
  (l_Worldw_initw : K.lookup f_Worldw_initw = some ⟨oc_Worldw_initw, od_Worldw_initw, .func (PySem.W.fnOf "__init__" "World.__init__" (defArgs s_Worldw_initw) (defBody s_Worldw_initw) (defScope s_Worldw_initw) .none kV_Worldw_initw dc_Worldw_initw pm_Worldw_initw an_Worldw_initw cd_Worldw_initw ct_Worldw_initw), sl_Worldw_initw⟩)
  (c_Worldw_initw : PySem.W.codeIn K cd_Worldw_initw "World.__init__" = true)
  (k_Worldw_initw : PySem.W.keepIn K (.ref f_Worldw_initw) = true)
  (fn_Worldw_initw : PySem.W.isFn K (.ref f_Worldw_initw) = true)
  (mk_World : PySem.W.makesIn K C_World = true)
  (kc_World : PySem.W.keepIn K (.ref C_World) = true)
  (me_World_is_answer : PySem.W.findIn K (.ref C_World) "is_answer" = some (some (.ref f_World_is_answer)))
  (l_World_is_answer : K.lookup f_World_is_answer = some ⟨oc_World_is_answer, od_World_is_answer, .func (PySem.W.fnOf "is_answer" "World.is_answer" (defArgs s_World_is_answer) (defBody s_World_is_answer) (defScope s_World_is_answer) .none kV_World_is_answer dc_World_is_answer pm_World_is_answer an_World_is_answer cd_World_is_answer ct_World_is_answer), sl_World_is_answer⟩)
  (c_World_is_answer : PySem.W.codeIn K cd_World_is_answer "World.is_answer" = true)
  (k_World_is_answer : PySem.W.keepIn K (.ref f_World_is_answer) = true)
  (fn_World_is_answer : PySem.W.isFn K (.ref f_World_is_answer) = true)
  (me_World_is_change : PySem.W.findIn K (.ref C_World) "is_change" = some (some (.ref f_World_is_change)))
  (l_World_is_change : K.lookup f_World_is_change = some ⟨oc_World_is_change, od_World_is_change, .func (PySem.W.fnOf "is_change" "World.is_change" (defArgs s_World_is_change) (defBody s_World_is_change) (defScope s_World_is_change) .none kV_World_is_change dc_World_is_change pm_World_is_change an_World_is_change cd_World_is_change ct_World_is_change), sl_World_is_change⟩)
  (c_World_is_change : PySem.W.codeIn K cd_World_is_change "World.is_change" = true)
  (k_World_is_change : PySem.W.keepIn K (.ref f_World_is_change) = true)
  (fn_World_is_change : PySem.W.isFn K (.ref f_World_is_change) = true)
  (me_World_next_answers : PySem.W.findIn K (.ref C_World) "next_answers" = some (some (.ref f_World_next_answers)))
  (l_World_next_answers : K.lookup f_World_next_answers = some ⟨oc_World_next_answers, od_World_next_answers, .func (PySem.W.fnOf "next_answers" "World.next_answers" (defArgs s_World_next_answers) (defBody s_World_next_answers) (defScope s_World_next_answers) .none kV_World_next_answers dc_World_next_answers pm_World_next_answers an_World_next_answers cd_World_next_answers ct_World_next_answers), sl_World_next_answers⟩)
  (c_World_next_answers : PySem.W.codeIn K cd_World_next_answers "World.next_answers" = true)
  (k_World_next_answers : PySem.W.keepIn K (.ref f_World_next_answers) = true)
  (fn_World_next_answers : PySem.W.isFn K (.ref f_World_next_answers) = true)
  (me_World_blocked : PySem.W.findIn K (.ref C_World) "blocked" = some (some (.ref f_World_blocked)))
  (l_World_blocked : K.lookup f_World_blocked = some ⟨oc_World_blocked, od_World_blocked, .func (PySem.W.fnOf "blocked" "World.blocked" (defArgs s_World_blocked) (defBody s_World_blocked) (defScope s_World_blocked) .none kV_World_blocked dc_World_blocked pm_World_blocked an_World_blocked cd_World_blocked ct_World_blocked), sl_World_blocked⟩)
  (c_World_blocked : PySem.W.codeIn K cd_World_blocked "World.blocked" = true)
  (k_World_blocked : PySem.W.keepIn K (.ref f_World_blocked) = true)
  (fn_World_blocked : PySem.W.isFn K (.ref f_World_blocked) = true)
  (me_Ordersw_initw : PySem.W.findIn K (.ref C_Orders) "__init__" = some (some (.ref f_Ordersw_initw)))
  (fn_Ordersw_initw : PySem.W.isFn K (.ref f_Ordersw_initw) = true)
  (mk_Orders : PySem.W.makesIn K C_Orders = true)
  (kc_Orders : PySem.W.keepIn K (.ref C_Orders) = true)
  (l_Ordersw_initw : K.lookup f_Ordersw_initw = some ⟨oc_Ordersw_initw, od_Ordersw_initw, .func (PySem.W.ksFn "__init__" "Orders.__init__" (defArgs s_Ordersw_initw) (defBody s_Ordersw_initw) (defScope s_Ordersw_initw) .none .none dc_Ordersw_initw pm_Ordersw_initw an_Ordersw_initw (.ref k_Ordersw_initw) ct_Ordersw_initw c_Ordersw_initw), sl_Ordersw_initw⟩)
  (cd_Ordersw_initw : PySem.W.codeIn K (.ref k_Ordersw_initw) "Orders.__init__" = true)
  (kd_Ordersw_initw : K.lookup k_Ordersw_initw = some ⟨ccl_Ordersw_initw, cdd_Ordersw_initw, .fields vs_Ordersw_initw, ccs_Ordersw_initw⟩)
  (kv_Ordersw_initw : vs_Ordersw_initw[2]? = some (.str file_Ordersw_initw tf_Ordersw_initw))
  (kf_Ordersw_initw : (P.main.file == file_Ordersw_initw) = true)
  (cc_Ordersw_initw : K.lookup c_Ordersw_initw = some ⟨cl_Ordersw_initw, cld_Ordersw_initw, .cell (some (.ref C_Orders)), csl_Ordersw_initw⟩)
  (kp_Ordersw_initw : PySem.W.keepIn K (.ref f_Ordersw_initw) = true)
  (ic_Ordersw_initw : PySem.W.isClsIn K C_Orders = true)
  (su_Ordersw_initw : PySem.W.ks_superIn K C_Orders C_Orders "__init__" = some (some (.ref f_Worldw_initw)))
  (tb_Ordersw_initw : PySem.W.typeIn K (.ref f_Worldw_initw) = some (.type "function"))
  (mr_Ordersw_initw : PySem.W.mroIn K C_Orders (.ref C_Orders) = some true)
  (fi_Ordersw_initw : PySem.W.fnIn K f_Worldw_initw = true)
  (me_Orders_is_answer : PySem.W.findIn K (.ref C_Orders) "is_answer" = some (some (.ref f_Orders_is_answer)))
  (l_Orders_is_answer : K.lookup f_Orders_is_answer = some ⟨oc_Orders_is_answer, od_Orders_is_answer, .func (PySem.W.fnOf "is_answer" "Orders.is_answer" (defArgs s_Orders_is_answer) (defBody s_Orders_is_answer) (defScope s_Orders_is_answer) .none kV_Orders_is_answer dc_Orders_is_answer pm_Orders_is_answer an_Orders_is_answer cd_Orders_is_answer ct_Orders_is_answer), sl_Orders_is_answer⟩)
  (c_Orders_is_answer : PySem.W.codeIn K cd_Orders_is_answer "Orders.is_answer" = true)
  (k_Orders_is_answer : PySem.W.keepIn K (.ref f_Orders_is_answer) = true)
  (fn_Orders_is_answer : PySem.W.isFn K (.ref f_Orders_is_answer) = true)
  (me_Orders_is_change : PySem.W.findIn K (.ref C_Orders) "is_change" = some (some (.ref f_Orders_is_change)))
  (l_Orders_is_change : K.lookup f_Orders_is_change = some ⟨oc_Orders_is_change, od_Orders_is_change, .func (PySem.W.fnOf "is_change" "Orders.is_change" (defArgs s_Orders_is_change) (defBody s_Orders_is_change) (defScope s_Orders_is_change) .none kV_Orders_is_change dc_Orders_is_change pm_Orders_is_change an_Orders_is_change cd_Orders_is_change ct_Orders_is_change), sl_Orders_is_change⟩)
  (c_Orders_is_change : PySem.W.codeIn K cd_Orders_is_change "Orders.is_change" = true)
  (k_Orders_is_change : PySem.W.keepIn K (.ref f_Orders_is_change) = true)
  (fn_Orders_is_change : PySem.W.isFn K (.ref f_Orders_is_change) = true)
  (me_Orders_next_answers : PySem.W.findIn K (.ref C_Orders) "next_answers" = some (some (.ref f_Orders_next_answers)))
  (l_Orders_next_answers : K.lookup f_Orders_next_answers = some ⟨oc_Orders_next_answers, od_Orders_next_answers, .func (PySem.W.fnOf "next_answers" "Orders.next_answers" (defArgs s_Orders_next_answers) (defBody s_Orders_next_answers) (defScope s_Orders_next_answers) .none kV_Orders_next_answers dc_Orders_next_answers pm_Orders_next_answers an_Orders_next_answers cd_Orders_next_answers ct_Orders_next_answers), sl_Orders_next_answers⟩)
  (c_Orders_next_answers : PySem.W.codeIn K cd_Orders_next_answers "Orders.next_answers" = true)
  (k_Orders_next_answers : PySem.W.keepIn K (.ref f_Orders_next_answers) = true)
  (fn_Orders_next_answers : PySem.W.isFn K (.ref f_Orders_next_answers) = true)
  (me_Orders_blocked : PySem.W.findIn K (.ref C_Orders) "blocked" = some (some (.ref f_Orders_blocked)))
  (l_Orders_blocked : K.lookup f_Orders_blocked = some ⟨oc_Orders_blocked, od_Orders_blocked, .func (PySem.W.fnOf "blocked" "Orders.blocked" (defArgs s_Orders_blocked) (defBody s_Orders_blocked) (defScope s_Orders_blocked) .none kV_Orders_blocked dc_Orders_blocked pm_Orders_blocked an_Orders_blocked cd_Orders_blocked ct_Orders_blocked), sl_Orders_blocked⟩)
  (c_Orders_blocked : PySem.W.codeIn K cd_Orders_blocked "Orders.blocked" = true)
  (k_Orders_blocked : PySem.W.keepIn K (.ref f_Orders_blocked) = true)
  (fn_Orders_blocked : PySem.W.isFn K (.ref f_Orders_blocked) = true)
  (m_spots_of : PySem.W.nsIn K mainGlobals "spots_of" = some (some (.ref f_spots_of)))
  (l_spots_of : K.lookup f_spots_of = some ⟨oc_spots_of, od_spots_of, .func (PySem.W.fnOf "spots_of" "spots_of" (defArgs s_spots_of) (defBody s_spots_of) (defScope s_spots_of) .none kV_spots_of dc_spots_of pm_spots_of an_spots_of cd_spots_of ct_spots_of), sl_spots_of⟩)
  (c_spots_of : PySem.W.codeIn K cd_spots_of "spots_of" = true)
  (k_spots_of : PySem.W.keepIn K (.ref f_spots_of) = true)
  (m_exchanged : PySem.W.nsIn K mainGlobals "exchanged" = some (some (.ref f_exchanged)))
  (l_exchanged : K.lookup f_exchanged = some ⟨oc_exchanged, od_exchanged, .func (PySem.W.fnOf "exchanged" "exchanged" (defArgs s_exchanged) (defBody s_exchanged) (defScope s_exchanged) .none kV_exchanged dc_exchanged pm_exchanged an_exchanged cd_exchanged ct_exchanged), sl_exchanged⟩)
  (c_exchanged : PySem.W.codeIn K cd_exchanged "exchanged" = true)
  (k_exchanged : PySem.W.keepIn K (.ref f_exchanged) = true)
  (m_unlike_pairs : PySem.W.nsIn K mainGlobals "unlike_pairs" = some (some (.ref f_unlike_pairs)))
  (l_unlike_pairs : K.lookup f_unlike_pairs = some ⟨oc_unlike_pairs, od_unlike_pairs, .func (PySem.W.fnOf "unlike_pairs" "unlike_pairs" (defArgs s_unlike_pairs) (defBody s_unlike_pairs) (defScope s_unlike_pairs) .none kV_unlike_pairs dc_unlike_pairs pm_unlike_pairs an_unlike_pairs cd_unlike_pairs ct_unlike_pairs), sl_unlike_pairs⟩)
  (c_unlike_pairs : PySem.W.codeIn K cd_unlike_pairs "unlike_pairs" = true)
  (k_unlike_pairs : PySem.W.keepIn K (.ref f_unlike_pairs) = true)
  (m__law_cell : PySem.W.nsIn K mainGlobals "_law_cell" = some (some (.ref f_law_cell)))
  (l_law_cell : K.lookup f_law_cell = some ⟨oc_law_cell, od_law_cell, .func (PySem.W.fnOf "_law_cell" "_law_cell" (defArgs s_law_cell) (defBody s_law_cell) (defScope s_law_cell) .none kV_law_cell dc_law_cell pm_law_cell an_law_cell cd_law_cell ct_law_cell), sl_law_cell⟩)
  (c_law_cell : PySem.W.codeIn K cd_law_cell "_law_cell" = true)
  (k_law_cell : PySem.W.keepIn K (.ref f_law_cell) = true)
  (m__law_draw : PySem.W.nsIn K mainGlobals "_law_draw" = some (some (.ref f_law_draw)))
  (l_law_draw : K.lookup f_law_draw = some ⟨oc_law_draw, od_law_draw, .func (PySem.W.fnOf "_law_draw" "_law_draw" (defArgs s_law_draw) (defBody s_law_draw) (defScope s_law_draw) .none kV_law_draw dc_law_draw pm_law_draw an_law_draw cd_law_draw ct_law_draw), sl_law_draw⟩)
  (c_law_draw : PySem.W.codeIn K cd_law_draw "_law_draw" = true)
  (k_law_draw : PySem.W.keepIn K (.ref f_law_draw) = true)
  (m__law_int : PySem.W.nsIn K mainGlobals "_law_int" = some (some (.ref f_law_int)))
  (l_law_int : K.lookup f_law_int = some ⟨oc_law_int, od_law_int, .func (PySem.W.fnOf "_law_int" "_law_int" (defArgs s_law_int) (defBody s_law_int) (defScope s_law_int) .none kV_law_int dc_law_int pm_law_int an_law_int cd_law_int ct_law_int), sl_law_int⟩)
  (c_law_int : PySem.W.codeIn K cd_law_int "_law_int" = true)
  (k_law_int : PySem.W.keepIn K (.ref f_law_int) = true)
  (m__law_truth : PySem.W.nsIn K mainGlobals "_law_truth" = some (some (.ref f_law_truth)))
  (l_law_truth : K.lookup f_law_truth = some ⟨oc_law_truth, od_law_truth, .func (PySem.W.fnOf "_law_truth" "_law_truth" (defArgs s_law_truth) (defBody s_law_truth) (defScope s_law_truth) .none kV_law_truth dc_law_truth pm_law_truth an_law_truth cd_law_truth ct_law_truth), sl_law_truth⟩)
  (c_law_truth : PySem.W.codeIn K cd_law_truth "_law_truth" = true)
  (k_law_truth : PySem.W.keepIn K (.ref f_law_truth) = true)
  (m__law_equal : PySem.W.nsIn K mainGlobals "_law_equal" = some (some (.ref f_law_equal)))
  (l_law_equal : K.lookup f_law_equal = some ⟨oc_law_equal, od_law_equal, .func (PySem.W.fnOf "_law_equal" "_law_equal" (defArgs s_law_equal) (defBody s_law_equal) (defScope s_law_equal) .none kV_law_equal dc_law_equal pm_law_equal an_law_equal cd_law_equal ct_law_equal), sl_law_equal⟩)
  (c_law_equal : PySem.W.codeIn K cd_law_equal "_law_equal" = true)
  (k_law_equal : PySem.W.keepIn K (.ref f_law_equal) = true)
  (m__law_order : PySem.W.nsIn K mainGlobals "_law_order" = some (some (.ref f_law_order)))
  (l_law_order : K.lookup f_law_order = some ⟨oc_law_order, od_law_order, .func (PySem.W.fnOf "_law_order" "_law_order" (defArgs s_law_order) (defBody s_law_order) (defScope s_law_order) .none kV_law_order dc_law_order pm_law_order an_law_order cd_law_order ct_law_order), sl_law_order⟩)
  (c_law_order : PySem.W.codeIn K cd_law_order "_law_order" = true)
  (k_law_order : PySem.W.keepIn K (.ref f_law_order) = true)
  (m__law_spots : PySem.W.nsIn K mainGlobals "_law_spots" = some (some (.ref f_law_spots)))
  (l_law_spots : K.lookup f_law_spots = some ⟨oc_law_spots, od_law_spots, .func (PySem.W.fnOf "_law_spots" "_law_spots" (defArgs s_law_spots) (defBody s_law_spots) (defScope s_law_spots) .none kV_law_spots dc_law_spots pm_law_spots an_law_spots cd_law_spots ct_law_spots), sl_law_spots⟩)
  (c_law_spots : PySem.W.codeIn K cd_law_spots "_law_spots" = true)
  (k_law_spots : PySem.W.keepIn K (.ref f_law_spots) = true)
  (m__law_facts : PySem.W.nsIn K mainGlobals "_law_facts" = some (some (.ref f_law_facts)))
  (l_law_facts : K.lookup f_law_facts = some ⟨oc_law_facts, od_law_facts, .func (PySem.W.fnOf "_law_facts" "_law_facts" (defArgs s_law_facts) (defBody s_law_facts) (defScope s_law_facts) .none kV_law_facts dc_law_facts pm_law_facts an_law_facts cd_law_facts ct_law_facts), sl_law_facts⟩)
  (c_law_facts : PySem.W.codeIn K cd_law_facts "_law_facts" = true)
  (k_law_facts : PySem.W.keepIn K (.ref f_law_facts) = true)
  (m__law_is_order : PySem.W.nsIn K mainGlobals "_law_is_order" = some (some (.ref f_law_is_order)))
  (l_law_is_order : K.lookup f_law_is_order = some ⟨oc_law_is_order, od_law_is_order, .func (PySem.W.fnOf "_law_is_order" "_law_is_order" (defArgs s_law_is_order) (defBody s_law_is_order) (defScope s_law_is_order) .none kV_law_is_order dc_law_is_order pm_law_is_order an_law_is_order cd_law_is_order ct_law_is_order), sl_law_is_order⟩)
  (c_law_is_order : PySem.W.codeIn K cd_law_is_order "_law_is_order" = true)
  (k_law_is_order : PySem.W.keepIn K (.ref f_law_is_order) = true)
  (m__law_swapped : PySem.W.nsIn K mainGlobals "_law_swapped" = some (some (.ref f_law_swapped)))
  (l_law_swapped : K.lookup f_law_swapped = some ⟨oc_law_swapped, od_law_swapped, .func (PySem.W.fnOf "_law_swapped" "_law_swapped" (defArgs s_law_swapped) (defBody s_law_swapped) (defScope s_law_swapped) .none kV_law_swapped dc_law_swapped pm_law_swapped an_law_swapped cd_law_swapped ct_law_swapped), sl_law_swapped⟩)
  (c_law_swapped : PySem.W.codeIn K cd_law_swapped "_law_swapped" = true)
  (k_law_swapped : PySem.W.keepIn K (.ref f_law_swapped) = true)
  (m__law_is_change : PySem.W.nsIn K mainGlobals "_law_is_change" = some (some (.ref f_law_is_change)))
  (l_law_is_change : K.lookup f_law_is_change = some ⟨oc_law_is_change, od_law_is_change, .func (PySem.W.fnOf "_law_is_change" "_law_is_change" (defArgs s_law_is_change) (defBody s_law_is_change) (defScope s_law_is_change) .none kV_law_is_change dc_law_is_change pm_law_is_change an_law_is_change cd_law_is_change ct_law_is_change), sl_law_is_change⟩)
  (c_law_is_change : PySem.W.codeIn K cd_law_is_change "_law_is_change" = true)
  (k_law_is_change : PySem.W.keepIn K (.ref f_law_is_change) = true)
  (m__law_next : PySem.W.nsIn K mainGlobals "_law_next" = some (some (.ref f_law_next)))
  (l_law_next : K.lookup f_law_next = some ⟨oc_law_next, od_law_next, .func (PySem.W.fnOf "_law_next" "_law_next" (defArgs s_law_next) (defBody s_law_next) (defScope s_law_next) .none kV_law_next dc_law_next pm_law_next an_law_next cd_law_next ct_law_next), sl_law_next⟩)
  (c_law_next : PySem.W.codeIn K cd_law_next "_law_next" = true)
  (k_law_next : PySem.W.keepIn K (.ref f_law_next) = true)
  (m__law_unlike : PySem.W.nsIn K mainGlobals "_law_unlike" = some (some (.ref f_law_unlike)))
  (l_law_unlike : K.lookup f_law_unlike = some ⟨oc_law_unlike, od_law_unlike, .func (PySem.W.fnOf "_law_unlike" "_law_unlike" (defArgs s_law_unlike) (defBody s_law_unlike) (defScope s_law_unlike) .none kV_law_unlike dc_law_unlike pm_law_unlike an_law_unlike cd_law_unlike ct_law_unlike), sl_law_unlike⟩)
  (c_law_unlike : PySem.W.codeIn K cd_law_unlike "_law_unlike" = true)
  (k_law_unlike : PySem.W.keepIn K (.ref f_law_unlike) = true)
  (m__law_settings : PySem.W.nsIn K mainGlobals "_law_settings" = some (some (.ref f_law_settings)))
  (l_law_settings : K.lookup f_law_settings = some ⟨oc_law_settings, od_law_settings, .func (PySem.W.fnOf "_law_settings" "_law_settings" (defArgs s_law_settings) (defBody s_law_settings) (defScope s_law_settings) .none kV_law_settings dc_law_settings pm_law_settings an_law_settings cd_law_settings ct_law_settings), sl_law_settings⟩)
  (c_law_settings : PySem.W.codeIn K cd_law_settings "_law_settings" = true)
  (k_law_settings : PySem.W.keepIn K (.ref f_law_settings) = true)
  (m__law_doors_stand : PySem.W.nsIn K mainGlobals "_law_doors_stand" = some (some (.ref f_law_doors_stand)))
  (l_law_doors_stand : K.lookup f_law_doors_stand = some ⟨oc_law_doors_stand, od_law_doors_stand, .func (PySem.W.fnOf "_law_doors_stand" "_law_doors_stand" (defArgs s_law_doors_stand) (defBody s_law_doors_stand) (defScope s_law_doors_stand) .none kV_law_doors_stand dc_law_doors_stand pm_law_doors_stand an_law_doors_stand cd_law_doors_stand ct_law_doors_stand), sl_law_doors_stand⟩)
  (c_law_doors_stand : PySem.W.codeIn K cd_law_doors_stand "_law_doors_stand" = true)
  (k_law_doors_stand : PySem.W.keepIn K (.ref f_law_doors_stand) = true)
  (m__law_refused : PySem.W.nsIn K mainGlobals "_law_refused" = some (some (.ref f_law_refused)))
  (l_law_refused : K.lookup f_law_refused = some ⟨oc_law_refused, od_law_refused, .func (PySem.W.fnOf "_law_refused" "_law_refused" (defArgs s_law_refused) (defBody s_law_refused) (defScope s_law_refused) .none kV_law_refused dc_law_refused pm_law_refused an_law_refused cd_law_refused ct_law_refused), sl_law_refused⟩)
  (c_law_refused : PySem.W.codeIn K cd_law_refused "_law_refused" = true)
  (k_law_refused : PySem.W.keepIn K (.ref f_law_refused) = true)
  (m__law_wrong_fact : PySem.W.nsIn K mainGlobals "_law_wrong_fact" = some (some (.ref f_law_wrong_fact)))
  (l_law_wrong_fact : K.lookup f_law_wrong_fact = some ⟨oc_law_wrong_fact, od_law_wrong_fact, .func (PySem.W.fnOf "_law_wrong_fact" "_law_wrong_fact" (defArgs s_law_wrong_fact) (defBody s_law_wrong_fact) (defScope s_law_wrong_fact) .none kV_law_wrong_fact dc_law_wrong_fact pm_law_wrong_fact an_law_wrong_fact cd_law_wrong_fact ct_law_wrong_fact), sl_law_wrong_fact⟩)
  (c_law_wrong_fact : PySem.W.codeIn K cd_law_wrong_fact "_law_wrong_fact" = true)
  (k_law_wrong_fact : PySem.W.keepIn K (.ref f_law_wrong_fact) = true)
  (m_law : PySem.W.nsIn K mainGlobals "law" = some (some (.ref f_law)))
  (l_law : K.lookup f_law = some ⟨oc_law, od_law, .func (PySem.W.fnOf "law" "law" (defArgs s_law) (defBody s_law) (defScope s_law) .none kV_law dc_law pm_law an_law cd_law ct_law), sl_law⟩)
  (c_law : PySem.W.codeIn K cd_law "law" = true)
  (k_law : PySem.W.keepIn K (.ref f_law) = true)
  (hcn : PySem.W.specialIn K (.builtin "object.__class__") "__get__" = some (some (.builtin "getset_descriptor.__get__")))
  (hct : PySem.W.takesIn K (.builtin "object.__class__") = some true)
  (hop : PySem.W.nsIn K PySem.cStatics "thirdparty.any" = some none)
  (htop : (P.main.scope.names.lookup ("super" : Str)).isSome = false)
  (kit_Orders_World : PySem.W.kitOne K (.ref C_Orders) (.ref C_World) = some true)
  (kit_BadWorld_StepError : PySem.W.kitOne K (.ref C_BadWorld) (.ref C_StepError) = some true)
  (kit_BadWorld_ValueError : PySem.W.kitOne K (.ref C_BadWorld) (.type "ValueError") = some true)
  (kit_BadWorld_BadWeb : PySem.W.kitOne K (.ref C_BadWorld) (.ref C_BadWeb) = some false)
  (exm_BadWorld_BadWorld : PySem.W.exmOne K (.ref C_BadWorld) (.ref C_BadWorld) = some true) :
  Txt P K mg ⟨C_StepError, C_BadWeb, f_BadWebw_initw, (PySem.W.ksFn "__init__" "BadWeb.__init__" (defArgs s_BadWebw_initw) (defBody s_BadWebw_initw) (defScope s_BadWebw_initw) .none .none dc_BadWebw_initw pm_BadWebw_initw an_BadWebw_initw (.ref k_BadWebw_initw) ct_BadWebw_initw c_BadWebw_initw), k_BadWebw_initw, c_BadWebw_initw, C_BadWorld, f_BadWorldw_initw, (PySem.W.ksFn "__init__" "BadWorld.__init__" (defArgs s_BadWorldw_initw) (defBody s_BadWorldw_initw) (defScope s_BadWorldw_initw) .none .none dc_BadWorldw_initw pm_BadWorldw_initw an_BadWorldw_initw (.ref k_BadWorldw_initw) ct_BadWorldw_initw c_BadWorldw_initw), k_BadWorldw_initw, c_BadWorldw_initw, C_World, C_Orders, f_unlike, (PySem.W.fnOf "unlike" "unlike" (defArgs s_unlike) (defBody s_unlike) (defScope s_unlike) .none kV_unlike dc_unlike pm_unlike an_unlike cd_unlike ct_unlike), f_Worldw_initw, (PySem.W.fnOf "__init__" "World.__init__" (defArgs s_Worldw_initw) (defBody s_Worldw_initw) (defScope s_Worldw_initw) .none kV_Worldw_initw dc_Worldw_initw pm_Worldw_initw an_Worldw_initw cd_Worldw_initw ct_Worldw_initw), f_World_is_answer, (PySem.W.fnOf "is_answer" "World.is_answer" (defArgs s_World_is_answer) (defBody s_World_is_answer) (defScope s_World_is_answer) .none kV_World_is_answer dc_World_is_answer pm_World_is_answer an_World_is_answer cd_World_is_answer ct_World_is_answer), f_World_is_change, (PySem.W.fnOf "is_change" "World.is_change" (defArgs s_World_is_change) (defBody s_World_is_change) (defScope s_World_is_change) .none kV_World_is_change dc_World_is_change pm_World_is_change an_World_is_change cd_World_is_change ct_World_is_change), f_World_next_answers, (PySem.W.fnOf "next_answers" "World.next_answers" (defArgs s_World_next_answers) (defBody s_World_next_answers) (defScope s_World_next_answers) .none kV_World_next_answers dc_World_next_answers pm_World_next_answers an_World_next_answers cd_World_next_answers ct_World_next_answers), f_World_blocked, (PySem.W.fnOf "blocked" "World.blocked" (defArgs s_World_blocked) (defBody s_World_blocked) (defScope s_World_blocked) .none kV_World_blocked dc_World_blocked pm_World_blocked an_World_blocked cd_World_blocked ct_World_blocked), f_Ordersw_initw, (PySem.W.ksFn "__init__" "Orders.__init__" (defArgs s_Ordersw_initw) (defBody s_Ordersw_initw) (defScope s_Ordersw_initw) .none .none dc_Ordersw_initw pm_Ordersw_initw an_Ordersw_initw (.ref k_Ordersw_initw) ct_Ordersw_initw c_Ordersw_initw), k_Ordersw_initw, c_Ordersw_initw, f_Orders_is_answer, (PySem.W.fnOf "is_answer" "Orders.is_answer" (defArgs s_Orders_is_answer) (defBody s_Orders_is_answer) (defScope s_Orders_is_answer) .none kV_Orders_is_answer dc_Orders_is_answer pm_Orders_is_answer an_Orders_is_answer cd_Orders_is_answer ct_Orders_is_answer), f_Orders_is_change, (PySem.W.fnOf "is_change" "Orders.is_change" (defArgs s_Orders_is_change) (defBody s_Orders_is_change) (defScope s_Orders_is_change) .none kV_Orders_is_change dc_Orders_is_change pm_Orders_is_change an_Orders_is_change cd_Orders_is_change ct_Orders_is_change), f_Orders_next_answers, (PySem.W.fnOf "next_answers" "Orders.next_answers" (defArgs s_Orders_next_answers) (defBody s_Orders_next_answers) (defScope s_Orders_next_answers) .none kV_Orders_next_answers dc_Orders_next_answers pm_Orders_next_answers an_Orders_next_answers cd_Orders_next_answers ct_Orders_next_answers), f_Orders_blocked, (PySem.W.fnOf "blocked" "Orders.blocked" (defArgs s_Orders_blocked) (defBody s_Orders_blocked) (defScope s_Orders_blocked) .none kV_Orders_blocked dc_Orders_blocked pm_Orders_blocked an_Orders_blocked cd_Orders_blocked ct_Orders_blocked), f_spots_of, (PySem.W.fnOf "spots_of" "spots_of" (defArgs s_spots_of) (defBody s_spots_of) (defScope s_spots_of) .none kV_spots_of dc_spots_of pm_spots_of an_spots_of cd_spots_of ct_spots_of), f_exchanged, (PySem.W.fnOf "exchanged" "exchanged" (defArgs s_exchanged) (defBody s_exchanged) (defScope s_exchanged) .none kV_exchanged dc_exchanged pm_exchanged an_exchanged cd_exchanged ct_exchanged), f_unlike_pairs, (PySem.W.fnOf "unlike_pairs" "unlike_pairs" (defArgs s_unlike_pairs) (defBody s_unlike_pairs) (defScope s_unlike_pairs) .none kV_unlike_pairs dc_unlike_pairs pm_unlike_pairs an_unlike_pairs cd_unlike_pairs ct_unlike_pairs), f_law_cell, (PySem.W.fnOf "_law_cell" "_law_cell" (defArgs s_law_cell) (defBody s_law_cell) (defScope s_law_cell) .none kV_law_cell dc_law_cell pm_law_cell an_law_cell cd_law_cell ct_law_cell), f_law_draw, (PySem.W.fnOf "_law_draw" "_law_draw" (defArgs s_law_draw) (defBody s_law_draw) (defScope s_law_draw) .none kV_law_draw dc_law_draw pm_law_draw an_law_draw cd_law_draw ct_law_draw), f_law_int, (PySem.W.fnOf "_law_int" "_law_int" (defArgs s_law_int) (defBody s_law_int) (defScope s_law_int) .none kV_law_int dc_law_int pm_law_int an_law_int cd_law_int ct_law_int), f_law_truth, (PySem.W.fnOf "_law_truth" "_law_truth" (defArgs s_law_truth) (defBody s_law_truth) (defScope s_law_truth) .none kV_law_truth dc_law_truth pm_law_truth an_law_truth cd_law_truth ct_law_truth), f_law_equal, (PySem.W.fnOf "_law_equal" "_law_equal" (defArgs s_law_equal) (defBody s_law_equal) (defScope s_law_equal) .none kV_law_equal dc_law_equal pm_law_equal an_law_equal cd_law_equal ct_law_equal), f_law_order, (PySem.W.fnOf "_law_order" "_law_order" (defArgs s_law_order) (defBody s_law_order) (defScope s_law_order) .none kV_law_order dc_law_order pm_law_order an_law_order cd_law_order ct_law_order), f_law_spots, (PySem.W.fnOf "_law_spots" "_law_spots" (defArgs s_law_spots) (defBody s_law_spots) (defScope s_law_spots) .none kV_law_spots dc_law_spots pm_law_spots an_law_spots cd_law_spots ct_law_spots), f_law_facts, (PySem.W.fnOf "_law_facts" "_law_facts" (defArgs s_law_facts) (defBody s_law_facts) (defScope s_law_facts) .none kV_law_facts dc_law_facts pm_law_facts an_law_facts cd_law_facts ct_law_facts), f_law_is_order, (PySem.W.fnOf "_law_is_order" "_law_is_order" (defArgs s_law_is_order) (defBody s_law_is_order) (defScope s_law_is_order) .none kV_law_is_order dc_law_is_order pm_law_is_order an_law_is_order cd_law_is_order ct_law_is_order), f_law_swapped, (PySem.W.fnOf "_law_swapped" "_law_swapped" (defArgs s_law_swapped) (defBody s_law_swapped) (defScope s_law_swapped) .none kV_law_swapped dc_law_swapped pm_law_swapped an_law_swapped cd_law_swapped ct_law_swapped), f_law_is_change, (PySem.W.fnOf "_law_is_change" "_law_is_change" (defArgs s_law_is_change) (defBody s_law_is_change) (defScope s_law_is_change) .none kV_law_is_change dc_law_is_change pm_law_is_change an_law_is_change cd_law_is_change ct_law_is_change), f_law_next, (PySem.W.fnOf "_law_next" "_law_next" (defArgs s_law_next) (defBody s_law_next) (defScope s_law_next) .none kV_law_next dc_law_next pm_law_next an_law_next cd_law_next ct_law_next), f_law_unlike, (PySem.W.fnOf "_law_unlike" "_law_unlike" (defArgs s_law_unlike) (defBody s_law_unlike) (defScope s_law_unlike) .none kV_law_unlike dc_law_unlike pm_law_unlike an_law_unlike cd_law_unlike ct_law_unlike), f_law_settings, (PySem.W.fnOf "_law_settings" "_law_settings" (defArgs s_law_settings) (defBody s_law_settings) (defScope s_law_settings) .none kV_law_settings dc_law_settings pm_law_settings an_law_settings cd_law_settings ct_law_settings), f_law_doors_stand, (PySem.W.fnOf "_law_doors_stand" "_law_doors_stand" (defArgs s_law_doors_stand) (defBody s_law_doors_stand) (defScope s_law_doors_stand) .none kV_law_doors_stand dc_law_doors_stand pm_law_doors_stand an_law_doors_stand cd_law_doors_stand ct_law_doors_stand), f_law_refused, (PySem.W.fnOf "_law_refused" "_law_refused" (defArgs s_law_refused) (defBody s_law_refused) (defScope s_law_refused) .none kV_law_refused dc_law_refused pm_law_refused an_law_refused cd_law_refused ct_law_refused), f_law_wrong_fact, (PySem.W.fnOf "_law_wrong_fact" "_law_wrong_fact" (defArgs s_law_wrong_fact) (defBody s_law_wrong_fact) (defScope s_law_wrong_fact) .none kV_law_wrong_fact dc_law_wrong_fact pm_law_wrong_fact an_law_wrong_fact cd_law_wrong_fact ct_law_wrong_fact), f_law, (PySem.W.fnOf "law" "law" (defArgs s_law) (defBody s_law) (defScope s_law) .none kV_law dc_law pm_law an_law cd_law ct_law)⟩ := {
    z_ValueError := PySem.W.mg_none_of X G z_ValueError,
    z_all := PySem.W.mg_none_of X G z_all,
    z_any := PySem.W.mg_none_of X G z_any,
    z_bool := PySem.W.mg_none_of X G z_bool,
    z_enumerate := PySem.W.mg_none_of X G z_enumerate,
    z_int := PySem.W.mg_none_of X G z_int,
    z_isinstance := PySem.W.mg_none_of X G z_isinstance,
    z_len := PySem.W.mg_none_of X G z_len,
    z_list := PySem.W.mg_none_of X G z_list,
    z_max := PySem.W.mg_none_of X G z_max,
    z_min := PySem.W.mg_none_of X G z_min,
    z_range := PySem.W.mg_none_of X G z_range,
    z_set := PySem.W.mg_none_of X G z_set,
    z_sorted := PySem.W.mg_none_of X G z_sorted,
    z_super := PySem.W.mg_none_of X G z_super,
    z_tuple := PySem.W.mg_none_of X G z_tuple,
    m_MOST_THINGS := ⟨_, PySem.W.mg_of X G m_MOST_THINGS⟩,
    m_MOST_FACTS := ⟨_, PySem.W.mg_of X G m_MOST_FACTS⟩,
    m_StepError := PySem.W.mg_of X G m_StepError,
    xc_StepError := ⟨hg_StepError, hk_StepError, hs_StepError, hd_StepError, ha_StepError, hcn, hct, hm_StepError⟩,
    xf_StepError := ⟨hg_StepError, hk_StepError, hs_StepError, hd_StepError⟩,
    m_BadWeb := PySem.W.mg_of X G m_BadWeb,
    xc_BadWeb := ⟨hg_BadWeb, hk_BadWeb, hs_BadWeb, hd_BadWeb, ha_BadWeb, hcn, hct, hm_BadWeb⟩,
    xf_BadWeb := ⟨hg_BadWeb, hk_BadWeb, hs_BadWeb, hd_BadWeb⟩,
    F_BadWebw_initw := ⟨⟨_, _, _, _, _, _, _, _, rfl, l_BadWebw_initw, cd_BadWebw_initw⟩, ⟨_, _, _, _, _, _, kc_BadWebw_initw, kv_BadWebw_initw, kf_BadWebw_initw⟩, ⟨_, _, _, cc_BadWebw_initw⟩, ic_BadWebw_initw, PySem.W.mg_none_of X G z_super, htop, ⟨_, rfl, rfl⟩, kp_BadWebw_initw⟩,
    S_BadWebw_initw := ⟨⟨⟨_, _, _, _, _, _, _, _, _, _, _, _, _, _, _, x_BadWebw_initw, rv_BadWebw_initw⟩, sa_BadWebw_initw, hs_BadWeb, ty_BadWebw_initw, ke_BadWebw_initw⟩, su_BadWebw_initw, ve_BadWebw_initw, mr_BadWebw_initw, hop⟩,
    b_BadWebw_initw := Binds.all fun us hl => match us, hl with | [_, _], _ => rfl,
    i_BadWebw_initw := i_BadWebw_initw,
    ti_BadWebw_initw := ti_BadWebw_initw,
    nf_BadWeb_index := nf_BadWeb_index,
    m_BadWorld := PySem.W.mg_of X G m_BadWorld,
    xc_BadWorld := ⟨hg_BadWorld, hk_BadWorld, hs_BadWorld, hd_BadWorld, ha_BadWorld, hcn, hct, hm_BadWorld⟩,
    xf_BadWorld := ⟨hg_BadWorld, hk_BadWorld, hs_BadWorld, hd_BadWorld⟩,
    F_BadWorldw_initw := ⟨⟨_, _, _, _, _, _, _, _, rfl, l_BadWorldw_initw, cd_BadWorldw_initw⟩, ⟨_, _, _, _, _, _, kc_BadWorldw_initw, kv_BadWorldw_initw, kf_BadWorldw_initw⟩, ⟨_, _, _, cc_BadWorldw_initw⟩, ic_BadWorldw_initw, PySem.W.mg_none_of X G z_super, htop, ⟨_, rfl, rfl⟩, kp_BadWorldw_initw⟩,
    S_BadWorldw_initw := ⟨⟨⟨_, _, _, _, _, _, _, _, _, _, _, _, _, _, _, x_BadWorldw_initw, rv_BadWorldw_initw⟩, sa_BadWorldw_initw, hs_BadWorld, ty_BadWorldw_initw, ke_BadWorldw_initw⟩, su_BadWorldw_initw, ve_BadWorldw_initw, mr_BadWorldw_initw, hop⟩,
    b_BadWorldw_initw := Binds.all fun us hl => match us, hl with | [_, _], _ => rfl,
    i_BadWorldw_initw := i_BadWorldw_initw,
    ti_BadWorldw_initw := ti_BadWorldw_initw,
    nf_BadWorld_index := nf_BadWorld_index,
    m_World := PySem.W.mg_of X G m_World,
    cl_World := ⟨pg_World, hd_World, po_World, sa_World⟩,
    ty_World := fun H x dx fs e => .base (.ins e ⟨pg_World, hd_World, po_World, sa_World⟩ ha_World hcn hct hm_World),
    na_World_size := na_World_size,
    m_Orders := PySem.W.mg_of X G m_Orders,
    cl_Orders := ⟨pg_Orders, hd_Orders, po_Orders, sa_Orders⟩,
    ty_Orders := fun H x dx fs e => .base (.ins e ⟨pg_Orders, hd_Orders, po_Orders, sa_Orders⟩ ha_Orders hcn hct hm_Orders),
    na_Orders_count := na_Orders_count,
    na_Orders_facts := na_Orders_facts,
    na_Orders_size := na_Orders_size,
    m_unlike := PySem.W.mg_of X G m_unlike,
    F_unlike := fun_mk (st := s_unlike) l_unlike c_unlike k_unlike,
    b_unlike := (fun_mk (st := s_unlike) l_unlike c_unlike k_unlike).binds (ps := ["first", "second"]) fun _ _ _ _ _ _ us hl => match us, hl with | [_, _], _ => rfl,
    F_Worldw_initw := fun_mk (st := s_Worldw_initw) l_Worldw_initw c_Worldw_initw k_Worldw_initw,
    b_Worldw_initw := (fun_mk (st := s_Worldw_initw) l_Worldw_initw c_Worldw_initw k_Worldw_initw).binds (ps := ["self", "size"]) fun _ _ _ _ _ _ us hl => match us, hl with | [_, _], _ => rfl,
    mk_World := ⟨mk_World, me_Worldw_initw, fn_Worldw_initw, kc_World⟩,
    F_World_is_answer := fun_mk (st := s_World_is_answer) l_World_is_answer c_World_is_answer k_World_is_answer,
    b_World_is_answer := (fun_mk (st := s_World_is_answer) l_World_is_answer c_World_is_answer k_World_is_answer).binds (ps := ["self", "setting"]) fun _ _ _ _ _ _ us hl => match us, hl with | [_, _], _ => rfl,
    me_World_is_answer := ⟨me_World_is_answer, fn_World_is_answer, k_World_is_answer⟩,
    F_World_is_change := fun_mk (st := s_World_is_change) l_World_is_change c_World_is_change k_World_is_change,
    b_World_is_change := (fun_mk (st := s_World_is_change) l_World_is_change c_World_is_change k_World_is_change).binds (ps := ["self", "first", "second"]) fun _ _ _ _ _ _ us hl => match us, hl with | [_, _, _], _ => rfl,
    me_World_is_change := ⟨me_World_is_change, fn_World_is_change, k_World_is_change⟩,
    F_World_next_answers := fun_mk (st := s_World_next_answers) l_World_next_answers c_World_next_answers k_World_next_answers,
    b_World_next_answers := (fun_mk (st := s_World_next_answers) l_World_next_answers c_World_next_answers k_World_next_answers).binds (ps := ["self", "setting"]) fun _ _ _ _ _ _ us hl => match us, hl with | [_, _], _ => rfl,
    me_World_next_answers := ⟨me_World_next_answers, fn_World_next_answers, k_World_next_answers⟩,
    F_World_blocked := fun_mk (st := s_World_blocked) l_World_blocked c_World_blocked k_World_blocked,
    b_World_blocked := (fun_mk (st := s_World_blocked) l_World_blocked c_World_blocked k_World_blocked).binds (ps := ["self", "setting", "parts", "part"]) fun _ _ _ _ _ _ us hl => match us, hl with | [_, _, _, _], _ => rfl,
    me_World_blocked := ⟨me_World_blocked, fn_World_blocked, k_World_blocked⟩,
    mk_Orders := ⟨mk_Orders, me_Ordersw_initw, fn_Ordersw_initw, kc_Orders⟩,
    F_Ordersw_initw := ⟨⟨_, _, _, _, _, _, _, _, rfl, l_Ordersw_initw, cd_Ordersw_initw⟩, ⟨_, _, _, _, _, _, kd_Ordersw_initw, kv_Ordersw_initw, kf_Ordersw_initw⟩, ⟨_, _, _, cc_Ordersw_initw⟩, ic_Ordersw_initw, PySem.W.mg_none_of X G z_super, htop, ⟨_, rfl, rfl⟩, kp_Ordersw_initw⟩,
    S_Ordersw_initw := ⟨su_Ordersw_initw, tb_Ordersw_initw, mr_Ordersw_initw, hop, fi_Ordersw_initw⟩,
    b_Ordersw_initw := Binds.all fun us hl => match us, hl with | [_, _, _], _ => rfl,
    F_Orders_is_answer := fun_mk (st := s_Orders_is_answer) l_Orders_is_answer c_Orders_is_answer k_Orders_is_answer,
    b_Orders_is_answer := (fun_mk (st := s_Orders_is_answer) l_Orders_is_answer c_Orders_is_answer k_Orders_is_answer).binds (ps := ["self", "setting"]) fun _ _ _ _ _ _ us hl => match us, hl with | [_, _], _ => rfl,
    me_Orders_is_answer := ⟨me_Orders_is_answer, fn_Orders_is_answer, k_Orders_is_answer⟩,
    F_Orders_is_change := fun_mk (st := s_Orders_is_change) l_Orders_is_change c_Orders_is_change k_Orders_is_change,
    b_Orders_is_change := (fun_mk (st := s_Orders_is_change) l_Orders_is_change c_Orders_is_change k_Orders_is_change).binds (ps := ["self", "first", "second"]) fun _ _ _ _ _ _ us hl => match us, hl with | [_, _, _], _ => rfl,
    me_Orders_is_change := ⟨me_Orders_is_change, fn_Orders_is_change, k_Orders_is_change⟩,
    F_Orders_next_answers := fun_mk (st := s_Orders_next_answers) l_Orders_next_answers c_Orders_next_answers k_Orders_next_answers,
    b_Orders_next_answers := (fun_mk (st := s_Orders_next_answers) l_Orders_next_answers c_Orders_next_answers k_Orders_next_answers).binds (ps := ["self", "setting"]) fun _ _ _ _ _ _ us hl => match us, hl with | [_, _], _ => rfl,
    me_Orders_next_answers := ⟨me_Orders_next_answers, fn_Orders_next_answers, k_Orders_next_answers⟩,
    F_Orders_blocked := fun_mk (st := s_Orders_blocked) l_Orders_blocked c_Orders_blocked k_Orders_blocked,
    b_Orders_blocked := (fun_mk (st := s_Orders_blocked) l_Orders_blocked c_Orders_blocked k_Orders_blocked).binds (ps := ["self", "setting", "parts", "part"]) fun _ _ _ _ _ _ us hl => match us, hl with | [_, _, _, _], _ => rfl,
    me_Orders_blocked := ⟨me_Orders_blocked, fn_Orders_blocked, k_Orders_blocked⟩,
    m_spots_of := PySem.W.mg_of X G m_spots_of,
    F_spots_of := fun_mk (st := s_spots_of) l_spots_of c_spots_of k_spots_of,
    b_spots_of := (fun_mk (st := s_spots_of) l_spots_of c_spots_of k_spots_of).binds (ps := ["setting"]) fun _ _ _ _ _ _ us hl => match us, hl with | [_], _ => rfl,
    m_exchanged := PySem.W.mg_of X G m_exchanged,
    F_exchanged := fun_mk (st := s_exchanged) l_exchanged c_exchanged k_exchanged,
    b_exchanged := (fun_mk (st := s_exchanged) l_exchanged c_exchanged k_exchanged).binds (ps := ["setting", "spot"]) fun _ _ _ _ _ _ us hl => match us, hl with | [_, _], _ => rfl,
    m_unlike_pairs := PySem.W.mg_of X G m_unlike_pairs,
    F_unlike_pairs := fun_mk (st := s_unlike_pairs) l_unlike_pairs c_unlike_pairs k_unlike_pairs,
    b_unlike_pairs := (fun_mk (st := s_unlike_pairs) l_unlike_pairs c_unlike_pairs k_unlike_pairs).binds (ps := ["first", "second"]) fun _ _ _ _ _ _ us hl => match us, hl with | [_, _], _ => rfl,
    m__law_cell := PySem.W.mg_of X G m__law_cell,
    F_law_cell := fun_mk (st := s_law_cell) l_law_cell c_law_cell k_law_cell,
    b_law_cell := (fun_mk (st := s_law_cell) l_law_cell c_law_cell k_law_cell).binds (ps := ["script", "k"]) fun _ _ _ _ _ _ us hl => match us, hl with | [_, _], _ => rfl,
    m__law_draw := PySem.W.mg_of X G m__law_draw,
    F_law_draw := fun_mk (st := s_law_draw) l_law_draw c_law_draw k_law_draw,
    b_law_draw := (fun_mk (st := s_law_draw) l_law_draw c_law_draw k_law_draw).binds (ps := ["cell", "bases"]) fun _ _ _ _ _ _ us hl => match us, hl with | [_, _], _ => rfl,
    m__law_int := PySem.W.mg_of X G m__law_int,
    F_law_int := fun_mk (st := s_law_int) l_law_int c_law_int k_law_int,
    b_law_int := (fun_mk (st := s_law_int) l_law_int c_law_int k_law_int).binds (ps := ["actual", "expected"]) fun _ _ _ _ _ _ us hl => match us, hl with | [_, _], _ => rfl,
    m__law_truth := PySem.W.mg_of X G m__law_truth,
    F_law_truth := fun_mk (st := s_law_truth) l_law_truth c_law_truth k_law_truth,
    b_law_truth := (fun_mk (st := s_law_truth) l_law_truth c_law_truth k_law_truth).binds (ps := ["actual", "expected"]) fun _ _ _ _ _ _ us hl => match us, hl with | [_, _], _ => rfl,
    m__law_equal := PySem.W.mg_of X G m__law_equal,
    F_law_equal := fun_mk (st := s_law_equal) l_law_equal c_law_equal k_law_equal,
    b_law_equal := (fun_mk (st := s_law_equal) l_law_equal c_law_equal k_law_equal).binds (ps := ["actual", "expected"]) fun _ _ _ _ _ _ us hl => match us, hl with | [_, _], _ => rfl,
    m__law_order := PySem.W.mg_of X G m__law_order,
    F_law_order := fun_mk (st := s_law_order) l_law_order c_law_order k_law_order,
    b_law_order := (fun_mk (st := s_law_order) l_law_order c_law_order k_law_order).binds (ps := ["cell", "count"]) fun _ _ _ _ _ _ us hl => match us, hl with | [_, _], _ => rfl,
    m__law_spots := PySem.W.mg_of X G m__law_spots,
    F_law_spots := fun_mk (st := s_law_spots) l_law_spots c_law_spots k_law_spots,
    b_law_spots := (fun_mk (st := s_law_spots) l_law_spots c_law_spots k_law_spots).binds (ps := ["order"]) fun _ _ _ _ _ _ us hl => match us, hl with | [_], _ => rfl,
    m__law_facts := PySem.W.mg_of X G m__law_facts,
    F_law_facts := fun_mk (st := s_law_facts) l_law_facts c_law_facts k_law_facts,
    b_law_facts := (fun_mk (st := s_law_facts) l_law_facts c_law_facts k_law_facts).binds (ps := ["cell", "many", "order", "agree"]) fun _ _ _ _ _ _ us hl => match us, hl with | [_, _, _, _], _ => rfl,
    m__law_is_order := PySem.W.mg_of X G m__law_is_order,
    F_law_is_order := fun_mk (st := s_law_is_order) l_law_is_order c_law_is_order k_law_is_order,
    b_law_is_order := (fun_mk (st := s_law_is_order) l_law_is_order c_law_is_order k_law_is_order).binds (ps := ["setting", "count", "facts"]) fun _ _ _ _ _ _ us hl => match us, hl with | [_, _, _], _ => rfl,
    m__law_swapped := PySem.W.mg_of X G m__law_swapped,
    F_law_swapped := fun_mk (st := s_law_swapped) l_law_swapped c_law_swapped k_law_swapped,
    b_law_swapped := (fun_mk (st := s_law_swapped) l_law_swapped c_law_swapped k_law_swapped).binds (ps := ["order", "k", "j"]) fun _ _ _ _ _ _ us hl => match us, hl with | [_, _, _], _ => rfl,
    m__law_is_change := PySem.W.mg_of X G m__law_is_change,
    F_law_is_change := fun_mk (st := s_law_is_change) l_law_is_change c_law_is_change k_law_is_change,
    b_law_is_change := (fun_mk (st := s_law_is_change) l_law_is_change c_law_is_change k_law_is_change).binds (ps := ["first", "second", "count", "facts"]) fun _ _ _ _ _ _ us hl => match us, hl with | [_, _, _, _], _ => rfl,
    m__law_next := PySem.W.mg_of X G m__law_next,
    F_law_next := fun_mk (st := s_law_next) l_law_next c_law_next k_law_next,
    b_law_next := (fun_mk (st := s_law_next) l_law_next c_law_next k_law_next).binds (ps := ["order", "count", "facts"]) fun _ _ _ _ _ _ us hl => match us, hl with | [_, _, _], _ => rfl,
    m__law_unlike := PySem.W.mg_of X G m__law_unlike,
    F_law_unlike := fun_mk (st := s_law_unlike) l_law_unlike c_law_unlike k_law_unlike,
    b_law_unlike := (fun_mk (st := s_law_unlike) l_law_unlike c_law_unlike k_law_unlike).binds (ps := ["first", "second"]) fun _ _ _ _ _ _ us hl => match us, hl with | [_, _], _ => rfl,
    m__law_settings := PySem.W.mg_of X G m__law_settings,
    F_law_settings := fun_mk (st := s_law_settings) l_law_settings c_law_settings k_law_settings,
    b_law_settings := (fun_mk (st := s_law_settings) l_law_settings c_law_settings k_law_settings).binds (ps := ["order", "second", "at"]) fun _ _ _ _ _ _ us hl => match us, hl with | [_, _, _], _ => rfl,
    m__law_doors_stand := PySem.W.mg_of X G m__law_doors_stand,
    F_law_doors_stand := fun_mk (st := s_law_doors_stand) l_law_doors_stand c_law_doors_stand k_law_doors_stand,
    b_law_doors_stand := (fun_mk (st := s_law_doors_stand) l_law_doors_stand c_law_doors_stand k_law_doors_stand).binds (ps := ["world", "settings", "count", "facts"]) fun _ _ _ _ _ _ us hl => match us, hl with | [_, _, _, _], _ => rfl,
    m__law_refused := PySem.W.mg_of X G m__law_refused,
    F_law_refused := fun_mk (st := s_law_refused) l_law_refused c_law_refused k_law_refused,
    b_law_refused := (fun_mk (st := s_law_refused) l_law_refused c_law_refused k_law_refused).binds (ps := ["count", "facts", "index"]) fun _ _ _ _ _ _ us hl => match us, hl with | [_, _, _], _ => rfl,
    m__law_wrong_fact := PySem.W.mg_of X G m__law_wrong_fact,
    F_law_wrong_fact := fun_mk (st := s_law_wrong_fact) l_law_wrong_fact c_law_wrong_fact k_law_wrong_fact,
    b_law_wrong_fact := (fun_mk (st := s_law_wrong_fact) l_law_wrong_fact c_law_wrong_fact k_law_wrong_fact).binds (ps := ["count", "choice", "k"]) fun _ _ _ _ _ _ us hl => match us, hl with | [_, _, _], _ => rfl,
    m_law := PySem.W.mg_of X G m_law,
    F_law := fun_mk (st := s_law) l_law c_law k_law,
    b_law := (fun_mk (st := s_law) l_law c_law k_law).binds (ps := ["script"]) fun _ _ _ _ _ _ us hl => match us, hl with | [_], _ => rfl,
    kit_Orders_World := kit_Orders_World,
    kit_BadWorld_StepError := kit_BadWorld_StepError,
    kit_BadWorld_ValueError := kit_BadWorld_ValueError,
    kit_BadWorld_BadWeb := kit_BadWorld_BadWeb,
    exm_BadWorld_BadWorld := exm_BadWorld_BadWorld }
set_option Elab.async false
set_option linter.all false
set_option maxRecDepth 100000
set_option maxHeartbeats 4000000
set_option autoImplicit false
open PySem L2 Z
open Evl (Ex)
local macro_rules | `(tactic| walk_at "ex") => `(tactic| first | assumption | exact Evl.Ex.refl _ | (refine Evl.Ex.trans (by assumption) ?_; walk_at "ex"))
local macro_rules | `(tactic| walk_at "side") => `(tactic| first | assumption | ((apply Z.atI_mapE); assumption; rfl) | omega | decide | (exact Or.inl ⟨by omega, by omega⟩) | (exact Or.inr ⟨by omega, by omega⟩) | (with_reducible rfl) | (refine ⟨?_, ?_⟩ <;> walk_at "side") | rfl)
local macro_rules | `(tactic| walk_at "sub") => `(tactic| first | walk_at "ev" | walk_at "side")
local macro_rules | `(tactic| walk_at "ev") => `(tactic| first
  | assumption
  | exact Z.er_int | exact Z.er_bl | exact Z.er_str | exact Z.er_non
  | exact Z.er_vint rfl | exact Z.er_vbl rfl | exact Z.er_vstr rfl
  | ((with_reducible apply Z.ed_var); (exact rfl); assumption; (walk_at "ex"))
  | exact Z.ed_own rfl (by assumption) (by walk_at "ex")
  | ((with_reducible apply Z.er_add) <;> walk_at "sub") | ((with_reducible apply Z.er_sub) <;> walk_at "sub") | ((with_reducible apply Z.er_mul) <;> walk_at "sub")
  | ((with_reducible apply Z.er_fdiv) <;> walk_at "sub") | ((with_reducible apply Z.er_mod) <;> walk_at "sub") | ((with_reducible apply Z.er_pow) <;> walk_at "sub")
  | ((with_reducible apply Z.er_neg) <;> walk_at "sub")
  | ((with_reducible apply Z.er_lt) <;> walk_at "sub") | ((with_reducible apply Z.er_le) <;> walk_at "sub") | ((with_reducible apply Z.er_gt) <;> walk_at "sub") | ((with_reducible apply Z.er_ge) <;> walk_at "sub")
  | ((with_reducible apply Z.er_eqI) <;> walk_at "ev") | ((with_reducible apply Z.er_neI) <;> walk_at "ev")
  | ((with_reducible apply Z.et_test) <;> walk_at "sub") | ((with_reducible apply Z.et_B) <;> walk_at "sub") | ((with_reducible apply Z.et_not) <;> walk_at "sub")
  | ((apply Z.ed_lenL) <;> walk_at "sub") | ((apply Z.ed_lenT) <;> walk_at "sub")
  | ((with_reducible apply Z.er_int1) <;> walk_at "sub")
  | ((with_reducible apply Z.et_orU) <;> walk_at "sub") | ((with_reducible apply Z.et_andU) <;> walk_at "sub")
  | ((with_reducible apply Z.er_andU) <;> walk_at "sub") | ((with_reducible apply Z.er_orU) <;> walk_at "sub") | ((with_reducible apply Z.er_notV) <;> walk_at "sub")
  | ((apply Z.er_isi_intb) <;> walk_at "sub") | ((apply Z.er_isi_int) <;> walk_at "sub") | ((apply Z.ed_isi_list) <;> walk_at "sub") | ((apply Z.ed_isi_tup) <;> walk_at "sub")
  | ((apply Z.ed_ixL) <;> walk_at "sub") | ((apply Z.ed_ixT) <;> walk_at "sub")
  | exact Z.ea_nil | ((with_reducible apply Z.ea_cons) <;> walk_at "sub"))
section
variable {P : Program} {w : World} {K : PySem.W.Frag} {mg : Str → Option Value} {base : Heap} {a : Ad}
def spCell (K : PySem.W.Frag) : Sp := sp2 K (fun (_ : List Int) (k : Int) => 0 ≤ k) cell
theorem ok_law_cell (T : Txt P K mg a) : FnOk P w K mg base CX0 1 a.f_law_cell a.d_law_cell ["script", "k"] (spCell K) := by
  refine T.F_law_cell.ok sc_law_cell len2 (fun cdv A outer s H vs Q E hr h => ⟨_, (pss_cons (ps_if (pt_cmpR op_lt (pv 1) (pe_callB (k_call_len_seq (K := K) rfl) (by rfl) T.z_len (by decide +kernel) (pa_cons (pv 0) pa_nil)) (nomark _))
  (pss_one (ps_ret (pe_callTy call_int1 (by rfl) T.z_int (by decide +kernel) (pa_cons (pe_ix (k_ix_list (K := K) rfl) (pv 0) (pv 1) (fun _ _ => rfl)) pa_nil))))
  pss_nil)
  (pss_one (ps_ret pe_int))), ?_⟩)
  obtain ⟨v, u, ns, k, rfl, r1, r2, hk, q⟩ := h
  obtain rfl := r2.int
  refine q_if (K := K) (b := decide (k < ns.length)) (by walk_at "ev") (fun hb H1 e1 => ?_) (fun hb H1 e1 => ?_)
  · have hb := of_decide_eq_true hb
    obtain ⟨x, hx, hg⟩ := atI_nn hk hb
    refine s_ret (K := K) (x := x) ?_ (fun v H2 e2 r => q v H2 (e1.trans e2) ?_)
    · refine er_int1 (er_ixL (xs := ns) ?_ ?_ hx) <;> walk_at "ev"
    · rw [show cell ns k = x by unfold cell; rw [if_pos hb, List.getD_eq_getElem?_getD, hg]; rfl]
      exact r
  · have hb := of_decide_eq_false hb
    refine s_ret (K := K) (x := (0 : Int)) (by walk_at "ev") (fun v H2 e2 r => q v H2 (e1.trans e2) ?_)
    rw [show cell ns k = 0 by unfold cell; rw [if_neg hb]]
    exact r
def spDraw (K : PySem.W.Frag) : Sp := sl2 K (fun (_ : Int) (bs : List Int) => (∀ b, b ∈ bs → 0 < b ∧ b < 1073741824) ∧ bs.length ≤ 50000) drw
theorem ok_law_draw (T : Txt P K mg a) : FnOk P w K mg base CX0 1 a.f_law_draw a.d_law_draw ["cell", "bases"] (spDraw K) := by
  refine T.F_law_draw.ok sc_law_draw lel2 (fun cdv A outer s H vs Q E hr h => ⟨_, (pss_cons (ps_set (i := 2) sc_law_draw.nd rfl (Or.inl rfl) (pe_lst pa_nil))
  (pss_cons (ps_set (i := 3) sc_law_draw.nd rfl (Or.inl rfl) (pe_callTy call_int1 (by rfl) T.z_int (by decide +kernel) (pa_cons (pv 0) pa_nil)))
  (pss_cons (ps_if (pt_cmpR op_ge (pv 3) (pe_op op_pow pe_int pe_int) (nomark _))
  (pss_cons (ps_set (i := 3) sc_law_draw.nd rfl (Or.inl rfl) (pe_op op_sub (pv 3) (pe_op op_pow pe_int pe_int)))
  (pss_cons (ps_for PassesOwn.never rfl (k_pi_list (K := K) rfl (pv 1)) (pg_name (i := 4) sc_law_draw.nd rfl (Or.inl rfl))
  (pss_cons (ps_expr (k_pe_bm (K := K) rfl (pe_bm PySem.F.plainAttrs_list PySem.F.slot_list_append PySem.F.type_list_append mt_append (pv 2) (pa_cons (pe_op op_mod (pv 3) (pv 4)) pa_nil))))
  (pss_one (ps_set (i := 3) sc_law_draw.nd rfl (Or.inl rfl) (pe_op op_fdiv (pv 3) (pv 4))))))
  (pss_one (ps_ret (pv 2)))))
  pss_nil)
  (pss_cons (ps_set (i := 5) sc_law_draw.nd rfl (Or.inl rfl) (pe_op op_mod (pv 3) pe_int))
  (pss_cons (ps_for PassesOwn.never rfl (k_pi_list (K := K) rfl (pv 1)) (pg_name (i := 4) sc_law_draw.nd rfl (Or.inl rfl))
  (pss_cons (ps_set (i := 5) sc_law_draw.nd rfl (Or.inl rfl) (pe_op op_mod (pe_op op_add (pe_op op_mul (pv 5) pe_int) pe_int) pe_int))
  (pss_one (ps_expr (k_pe_bm (K := K) rfl (pe_bm PySem.F.plainAttrs_list PySem.F.slot_list_append PySem.F.type_list_append mt_append (pv 2) (pa_cons (pe_op op_mod (pe_op op_fdiv (pv 5) pe_int) (pv 4)) pa_nil)))))))
  (pss_one (ps_ret (pv 2)))))))), ?_⟩)
  obtain ⟨v, u, c, bs, rfl, r1, r2, ⟨hb, hl⟩, q⟩ := h
  obtain rfl := r1.int
  refine q_setL (K := K) (α := Int) (xs := []) (el_lst ea_nil) fun p H1 hp e1 o1 => ?_
  refine q_setI (K := K) (x := c) (er_int1 (er_vint rfl)) fun H2 e2 => ?_
  refine q_if (K := K) (b := decide (10 ^ (18 : Int).toNat ≤ c)) (by walk_at "ev") (fun hc H3 e3 => ?_) (fun hc H3 e3 => ?_)
  · have hc := of_decide_eq_true hc
    refine q_setI (K := K) (x := c - 10 ^ (18 : Int).toNat) (by walk_at "ev") fun H4 e4 => ?_
    have e04 : Ex H H4 := e1.trans (e2.trans (e3.trans e4))
    refine s_seq (s_forV (K := K) (xs := bs) rfl r2 e04 (fun i σ' H' => ∃ o, σ' = [some (.int c), some u, some (.ref p), some (.int (bigR (c - 10 ^ 18) (bs.take i))), o, none] ∧ Own K H' p (big (c - 10 ^ 18) (bs.take i)))
      ⟨none, rfl, o1.mono (e2.trans (e3.trans e4))⟩ ?_ ?_)
    · rintro i b w σ' H5 hi e5 rb ⟨o, rfl, o5⟩
      obtain rfl := Rep.int rb
      have hm := hb b (List.mem_of_getElem? hi)
      refine q_app (l := 2) rfl o5 (x := bigR (c - 10 ^ 18) (bs.take i) % b) (by walk_at "ev") (by rw [big_len, List.length_take]; omega) fun H6 k6 _ o6 => ?_
      refine s_setI (K := K) (x := bigR (c - 10 ^ 18) (bs.take i) / b) (by walk_at "ev") fun H7 e7 => ⟨(k6 _ e5 hp).trans e7, some (.int b), ?_, ?_⟩
      · rw [take_succ_get hi]
        simp [bigR]
      · rw [take_succ_get hi, big_snoc]
        exact o6.mono e7
    · rintro σ' H5 e5 ⟨o, rfl, o5⟩
      rw [List.take_length] at o5
      refine ⟨_, rfl, q p H5 hp e5 ?_⟩
      unfold drw
      rw [if_pos (show 10 ^ 18 ≤ c from hc)]
      exact o5
  · have hc := of_decide_eq_false hc
    refine q_setI (K := K) (x := c % 2147483647) (by walk_at "ev") fun H4 e4 => ?_
    have e04 : Ex H H4 := e1.trans (e2.trans (e3.trans e4))
    refine s_seq (s_forV (K := K) (xs := bs) rfl r2 e04 (fun i σ' H' => ∃ o, σ' = [some (.int c), some u, some (.ref p), some (.int c), o, some (.int (smallR (c % 2147483647) (bs.take i)))] ∧ Own K H' p (small (c % 2147483647) (bs.take i)))
      ⟨none, rfl, o1.mono (e2.trans (e3.trans e4))⟩ ?_ ?_)
    · rintro i b w σ' H5 hi e5 rb ⟨o, rfl, o5⟩
      obtain rfl := Rep.int rb
      have hm := hb b (List.mem_of_getElem? hi)
      have hs := smallR_lt (s := c % 2147483647) (Int.emod_nonneg _ (by decide)) (Int.emod_lt_of_pos _ (by decide)) (bs.take i)
      refine q_setI (K := K) (x := (smallR (c % 2147483647) (bs.take i) * 48271 + 12345) % 2147483647) (by walk_at "ev") fun H6 e6 => ?_
      refine s_app (l := 2) rfl (o5.mono e6) (x := (smallR (c % 2147483647) (bs.take i) * 48271 + 12345) % 2147483647 / 64 % b) (by walk_at "ev") (by rw [small_len, List.length_take]; omega) fun H7 k7 _ o7 => ⟨k7 _ (e5.trans e6) hp, some (.int b), ?_, ?_⟩
      · rw [take_succ_get hi]
        simp [smallR]
      · rw [take_succ_get hi, small_snoc]
        exact o7
    · rintro σ' H5 e5 ⟨o, rfl, o5⟩
      rw [List.take_length] at o5
      refine ⟨_, rfl, q p H5 hp e5 ?_⟩
      unfold drw
      rw [if_neg (show ¬ (10 ^ 18 ≤ c) from hc)]
      exact o5
end
set_option Elab.async false
set_option linter.all false
set_option maxRecDepth 100000
set_option maxHeartbeats 400000
set_option autoImplicit false
open PySem L2 Z
/-! ### the mirror, with no program in sight -/
abbrev Fact := Tp Int
/-- where each thing stands, after k things -/
def spotsN (xs : List Int) : Nat → List Int
  | 0 => List.replicate xs.length 0
  | k + 1 => (spotsN xs k).set (xs.getD k 0).toNat (k : Int)
def spots (xs : List Int) : List Int := spotsN xs xs.length
theorem spotsN_len (xs : List Int) (k : Nat) : (spotsN xs k).length = xs.length := by
  induction k with
  | zero => exact List.length_replicate ..
  | succ k ih => unfold spotsN; rw [List.length_set, ih]
theorem spots_len (xs : List Int) : (spots xs).length = xs.length := spotsN_len _ _
def rng (n : Nat) : List Int := (List.range n).map fun (k : Nat) => (k : Int)
/-- an order of 0 .. n - 1 -/
def IsOrd (n : Nat) (xs : List Int) : Prop := srtK (fun x : Int => x) xs = rng n
instance {n : Nat} {xs : List Int} : Decidable (IsOrd n xs) := inferInstanceAs (Decidable (_ = _))
theorem rng_nodup (n : Nat) : (rng n).Nodup := by
  unfold rng
  rw [List.nodup_iff_pairwise_ne, List.pairwise_map]
  exact List.nodup_range.imp fun h z => h (by omega)
theorem IsOrd.perm {n : Nat} {xs : List Int} (h : IsOrd n xs) : xs.Perm (rng n) := by
  have := srtK_perm (f := fun x : Int => x) (xs := xs)
  rw [h] at this
  exact this.symm
theorem rng_sorted (n : Nat) : (rng n).Pairwise fun a b => a ≤ b := by
  unfold rng
  rw [List.pairwise_map]
  exact (List.pairwise_lt_range (n := n)).imp fun h => by omega
theorem IsOrd.of_perm {n : Nat} {xs : List Int} (h : xs.Perm (rng n)) : IsOrd n xs :=
  (srtK_uniq (f := fun x : Int => x) h.symm (rng_sorted n) fun a b _ _ e => e).symm
theorem IsOrd.len {n : Nat} {xs : List Int} (h : IsOrd n xs) : xs.length = n := by
  rw [h.perm.length_eq]
  unfold rng
  rw [List.length_map, List.length_range]
theorem IsOrd.nodup {n : Nat} {xs : List Int} (h : IsOrd n xs) : xs.Nodup := h.perm.nodup_iff.mpr (rng_nodup n)
theorem mem_rng {n : Nat} {x : Int} : x ∈ rng n ↔ 0 ≤ x ∧ x < n := by
  unfold rng
  rw [List.mem_map]
  constructor
  · rintro ⟨k, hk, rfl⟩
    have := List.mem_range.mp hk
    omega
  · rintro ⟨h1, h2⟩
    exact ⟨x.toNat, List.mem_range.mpr (by omega), by omega⟩
theorem IsOrd.bd {n : Nat} {xs : List Int} (h : IsOrd n xs) {x : Int} (hx : x ∈ xs) : 0 ≤ x ∧ x < n := mem_rng.mp (h.perm.mem_iff.mp hx)
/-- two neighbours exchanged -/
def exch (xs : List Int) (k : Nat) : List Int := (xs.set k (xs.getD (k + 1) 0)).set (k + 1) (xs.getD k 0)
theorem exch_len (xs : List Int) (k : Nat) : (exch xs k).length = xs.length := by
  unfold exch
  rw [List.length_set, List.length_set]
theorem exch_eq {xs : List Int} {k : Nat} (h : k + 1 < xs.length) : xs.take k ++ (xs.getD (k + 1) 0 :: xs.getD k 0 :: xs.drop (k + 2)) = exch xs k := by
  unfold exch
  apply List.ext_getElem?
  intro i
  rw [List.getElem?_set, List.getElem?_set, List.length_set]
  by_cases h1 : i < k
  · rw [List.getElem?_append_left (by rw [List.length_take]; omega), List.getElem?_take_of_lt h1, if_neg (by omega), if_neg (by omega)]
  · rw [List.getElem?_append_right (by rw [List.length_take]; omega), List.length_take, show min k xs.length = k by omega]
    obtain ⟨j, rfl⟩ : ∃ j, i = k + j := ⟨i - k, by omega⟩
    rw [show k + j - k = j by omega]
    match j with
    | 0 => rw [if_neg (by omega), if_pos (by omega), if_pos (by omega)]; rfl
    | 1 => rw [if_pos (by omega), if_pos (by omega)]; rfl
    | j + 2 =>
      rw [if_neg (by omega), if_neg (by omega)]
      show (xs.drop (k + 2))[j]? = _
      rw [List.getElem?_drop]
      congr 1
      omega
/-- places at which two differ -/
def unl (xs ys : List Int) : List Nat := (List.range xs.length).filter fun p => !decide (xs.getD p 0 = ys.getD p 0)
theorem exch_get {xs : List Int} {k : Nat} (h : k + 1 < xs.length) (p : Nat) : (exch xs k).getD p 0 = if p = k then xs.getD (k + 1) 0 else if p = k + 1 then xs.getD k 0 else xs.getD p 0 := by
  unfold exch
  rw [List.getD_eq_getElem?_getD, List.getElem?_set, List.getElem?_set, List.length_set]
  by_cases h1 : k + 1 = p
  · subst h1
    rw [if_pos rfl, if_pos h, if_neg (by omega), if_pos rfl]
    rfl
  · rw [if_neg h1]
    by_cases h2 : k = p
    · subst h2
      rw [if_pos rfl, if_pos (by omega), if_pos rfl]
      rfl
    · rw [if_neg h2, if_neg (fun z => h2 z.symm), if_neg (fun z => h1 z.symm), List.getD_eq_getElem?_getD]
theorem getD_inj {xs : List Int} (hn : xs.Nodup) {i j : Nat} (hi : i < xs.length) (hj : j < xs.length) (h : xs.getD i 0 = xs.getD j 0) : i = j := by
  rw [List.getD_eq_getElem?_getD, List.getD_eq_getElem?_getD, List.getElem?_eq_getElem hi, List.getElem?_eq_getElem hj] at h
  have h : xs[i] = xs[j] := h
  have pw := List.pairwise_iff_getElem.mp (List.nodup_iff_pairwise_ne.mp hn)
  rcases Nat.lt_trichotomy i j with c | c | c
  · exact absurd h (pw i j hi hj c)
  · exact c
  · exact absurd h.symm (pw j i hj hi c)
theorem filter_two {n k : Nat} (h : k + 1 < n) : (List.range n).filter (fun p => decide (p = k ∨ p = k + 1)) = [k, k + 1] := by
  have e : n = k + 2 + (n - (k + 2)) := by omega
  rw [e, List.range_add, List.filter_append, List.range_succ, List.range_succ, List.filter_append, List.filter_append]
  have e2 : (List.map (fun x => k + 2 + x) (List.range (n - (k + 2)))).filter (fun p => decide (p = k ∨ p = k + 1)) = [] := List.filter_eq_nil_iff.mpr fun x hx => by
    obtain ⟨y, _, rfl⟩ := List.mem_map.mp hx
    simp
    omega
  rw [List.filter_eq_nil_iff.mpr (fun x hx => by have := List.mem_range.mp hx; simp; omega), e2]
  simp [List.filter_cons]
/-- a change: two neighbours exchanged, no other place -/
theorem change_iff {n : Nat} {xs ys : List Int} (hx : IsOrd n xs) (hy : IsOrd n ys) (k : Nat) (hk : k + 1 < n) : unl xs ys = [k, k + 1] ↔ exch xs k = ys := by
  have lx := hx.len
  have ly := hy.len
  constructor
  · intro h
    have hd : ∀ p, p < n → (xs.getD p 0 ≠ ys.getD p 0 ↔ p = k ∨ p = k + 1) := fun p hp => by
      have : p ∈ unl xs ys ↔ p ∈ [k, k + 1] := by rw [h]
      unfold unl at this
      rw [List.mem_filter, List.mem_range] at this
      simp [-List.getD_eq_getElem?_getD, lx, hp] at this
      exact this
    have hs : ∀ p, p < n → p ≠ k → p ≠ k + 1 → xs.getD p 0 = ys.getD p 0 := fun p hp h1 h2 => Decidable.byContradiction fun z => by
      rcases (hd p hp).mp z with c | c
      · exact h1 c
      · exact h2 c
    -- where xs k stands in ys
    have find : ∀ i, i < n → ∃ p, p < n ∧ ys.getD p 0 = xs.getD i 0 := fun i hi => by
      have hm : xs.getD i 0 ∈ ys := by
        rw [hy.perm.mem_iff, ← hx.perm.mem_iff, List.getD_eq_getElem?_getD, List.getElem?_eq_getElem (by omega)]
        exact List.getElem_mem ..
      obtain ⟨p, hp, e⟩ := List.getElem_of_mem hm
      exact ⟨p, by omega, by rw [List.getD_eq_getElem?_getD, List.getElem?_eq_getElem hp]; exact e⟩
    have go : ∀ i j, i < n → j < n → i ≠ j → (i = k ∨ i = k + 1) → (j = k ∨ j = k + 1) → ys.getD j 0 = xs.getD i 0 := fun i j hi hj hij ci cj => by
      obtain ⟨p, hp, e⟩ := find i hi
      have hpi : p ≠ i := fun z => by
        subst z
        exact (hd p hp).mpr ci e.symm
      have hpk : p = k ∨ p = k + 1 := Decidable.byContradiction fun z => by
        have e2 := hs p hp (fun c => z (.inl c)) (fun c => z (.inr c))
        exact hpi (getD_inj hx.nodup (by omega) (by omega) (e2.trans e))
      have : p = j := by omega
      rw [← this]
      exact e
    apply List.ext_getElem?
    intro p
    by_cases hp : p < n
    · have e : (exch xs k).getD p 0 = ys.getD p 0 := by
        rw [exch_get (by omega)]
        split
        · rename_i c; subst c
          exact (go (p + 1) p (by omega) hp (by omega) (.inr rfl) (.inl rfl)).symm
        · split
          · rename_i c; subst c
            exact (go k (k + 1) (by omega) hp (by omega) (.inl rfl) (.inr rfl)).symm
          · exact hs p hp (by assumption) (by assumption)
      rw [List.getD_eq_getElem?_getD, List.getD_eq_getElem?_getD, List.getElem?_eq_getElem (by rw [exch_len]; omega), List.getElem?_eq_getElem (by omega)] at e
      rw [List.getElem?_eq_getElem (by rw [exch_len]; omega), List.getElem?_eq_getElem (by omega)]
      exact congrArg some e
    · rw [List.getElem?_eq_none (by rw [exch_len]; omega), List.getElem?_eq_none (by omega)]
  · rintro rfl
    unfold unl
    rw [lx, ← filter_two hk]
    refine List.filter_congr fun p hp => ?_
    have hp := List.mem_range.mp hp
    rw [exch_get (by omega)]
    have nd : ∀ i j, i < n → j < n → i ≠ j → ¬ xs.getD i 0 = xs.getD j 0 := fun i j hi hj h z => h (getD_inj hx.nodup (by omega) (by omega) z)
    split
    · rename_i c; subst c
      simp [-List.getD_eq_getElem?_getD, nd p (p + 1) (by omega) (by omega) (by omega)]
    · split
      · rename_i c; subst c
        have := nd (k + 1) k (by omega) (by omega) (by omega)
        simp [-List.getD_eq_getElem?_getD, this]
      · simp [-List.getD_eq_getElem?_getD, *]
theorem exch_perm {xs : List Int} {k : Nat} (h : k + 1 < xs.length) : (exch xs k).Perm xs := by
  rw [← exch_eq h]
  have e : xs = xs.take k ++ (xs.getD k 0 :: xs.getD (k + 1) 0 :: xs.drop (k + 2)) := by
    conv => lhs; rw [← List.take_append_drop k xs]
    congr 1
    rw [List.drop_eq_getElem_cons (by omega), List.drop_eq_getElem_cons (by omega), List.getD_eq_getElem?_getD, List.getD_eq_getElem?_getD, List.getElem?_eq_getElem (by omega), List.getElem?_eq_getElem (by omega)]
    rfl
  conv => rhs; rw [e]
  exact (List.Perm.swap _ _ _).append_left _
set_option Elab.async false
set_option linter.all false
set_option maxRecDepth 100000
set_option maxHeartbeats 400000
set_option autoImplicit false
open PySem L2 Z
open Evl (Ex)
section
variable {P : Program} {w : World} {K : PySem.W.Frag} {mg : Str → Option Value} {base : Heap} {a : Ad}
abbrev L (t : Tp Int) : List Int := t
theorem atI_D {xs : List Int} {k : Nat} (h : k < xs.length) : atI xs (k : Int) = some (xs.getD k 0) := by
  rw [List.getD_eq_getElem?_getD, List.getElem?_eq_getElem h]
  exact Z.atI_ofN (List.getElem?_eq_getElem h)
theorem er_rangeV {n : Nat} {xs : List Int} : (xs.map fun x : Int => x) = xs := List.map_id' xs
-- unlike
def unlI (xs ys : List Int) : List Int := (unl xs ys).map fun (k : Nat) => (k : Int)
def spUnlike (K : PySem.W.Frag) : Sp := sl2 K (fun (x y : Tp Int) => List.length x ≤ List.length y ∧ List.length x ≤ 50000) fun x y => unlI x y
theorem ok_unlike (T : Txt P K mg a) : FnOk P w K mg base CX0 1 a.f_unlike a.d_unlike ["first", "second"] (spUnlike K) := by
  refine T.F_unlike.ok sc_unlike lel2 (fun cdv A outer s H vs Q E hr h => ⟨_, (pss_one (ps_ret (pe_lc (own := [("position", 2)]) rfl sc_unlike.nd (pi_range1 (by rfl) T.z_range (pa_cons (pe_callB (k_call_len_seq (K := K) rfl) (by rfl) T.z_len (by decide +kernel) (pa_cons (pv 0) pa_nil)) pa_nil)) (blkOk_by (own := [("position", 2)]) (N := N_unlike) (sc := defScope s_unlike) (by decide +kernel)) (fun _ _ _ _ _ => (pg_name (i := 2) sc_unlike.nd rfl (Or.inl rfl))) (fun _ _ _ _ _ => (pts_one (pt_cmpR op_ne (pe_ix (k_ix_tup (K := K) rfl) (pv 0) (pv 2) (fun _ _ => rfl)) (pe_ix (k_ix_tup (K := K) rfl) (pv 1) (pv 2) (fun _ _ => rfl)) (nomark _)))) (fun _ _ _ _ _ => (pv 2))))), ?_⟩)
  obtain ⟨v, u, x, y, rfl, r1, r2, ⟨h1, h2⟩, q⟩ := h
  refine s_retL (K := K) (xs := unlI x y) ?_ fun p H2 hp e2 o2 => q p H2 hp e2 o2
  refine EL.is (el_rfilter (n := (List.length x : Int)) (f := fun (k : Nat) => (k : Int)) (p := fun p => !decide ((L x).getD p 0 = (L y).getD p 0)) (by walk_at "ev") (by omega) (by omega) (fun k H' hk e => ?_) (fun k H' hk hp e => ?_)) ?_
  · have c1 := atI_D (xs := L x) (k := k) (by show k < List.length x; omega)
    have c2 := atI_D (xs := L y) (k := k) (by show k < List.length y; omega)
    refine et_test (er_neI (er_ixT (xs := x) ?_ ?_ c1) (er_ixT (xs := y) ?_ ?_ c2)) <;> walk_at "ev"
  · walk_at "ev"
  · rw [Int.toNat_natCast]
    rfl
-- spots
def spSpots (K : PySem.W.Frag) : Sp := sl1 K (fun (x : Tp Int) => List.length x ≤ 50000 ∧ ∀ t, t ∈ L x → 0 ≤ t ∧ t < List.length x) fun x => spots x
theorem ok_spots_of (T : Txt P K mg a) : FnOk P w K mg base CX0 1 a.f_spots_of a.d_spots_of ["setting"] (spSpots K) := by
  refine T.F_spots_of.ok sc_spots_of lel1 (fun cdv A outer s H vs Q E hr h => ⟨_, (pss_cons (ps_set (i := 1) sc_spots_of.nd rfl (Or.inl rfl) (pe_op op_rep (pe_lst (pa_cons pe_int pa_nil)) (pe_callB (k_call_len_seq (K := K) rfl) (by rfl) T.z_len (by decide +kernel) (pa_cons (pv 0) pa_nil))))
  (pss_cons (ps_for PassesOwn.never rfl (k_pi_enumT (K := K) rfl (pi_enumT (by rfl) T.z_enumerate (pa_cons (pv 0) pa_nil))) (k_pg_tup (K := K) rfl (pg_tup (n := 2) (by rfl) (pgs_cons (pg_name (i := 2) sc_spots_of.nd rfl (Or.inl rfl)) (pgs_cons (pg_name (i := 3) sc_spots_of.nd rfl (Or.inl rfl)) pgs_nil))))
  (pss_one (ps_asg (pv 2) (pg_sub (pv 1) (pv 3) set_list))))
  (pss_one (ps_ret (pv 1))))), ?_⟩)
  obtain ⟨v, x, rfl, r1, ⟨h1, h2⟩, q⟩ := h
  refine q_setL (K := K) (xs := List.replicate (List.length x) (0 : Int)) ?_ fun p H1 hp e1 o1 => ?_
  · exact EL.is (el_rep1 (x := (0 : Int)) (n := (List.length x : Int)) (el_lst (by walk_at "ev")) (by walk_at "ev") (by omega) (by omega)) (by rw [Int.toNat_natCast])
  refine q_enumTV (K := K) (xs := x) (v := v) rfl r1 e1 (fun i σ' H' => ∃ o2 o3, σ' = [some v, some (.ref p), o2, o3] ∧ Z.Own K H' p (spotsN (L x) i)) ⟨_, _, rfl, o1⟩ ?_ ?_
  · rintro i t w' σ' H3 H4 hi e3 e4 rt ⟨o2, o3, rfl, o⟩
    obtain rfl := Rep.int rt
    have hm := h2 t (List.mem_of_getElem? hi)
    have hl := (List.getElem?_eq_some_iff.mp hi).1
    refine s_put (K := K) (α := Int) (x := (i : Int)) (j := t.toNat) rfl (o.mono e4) (er_vint rfl) (fun H9 e9 => (er_vint rfl).evI) (by
      rw [spotsN_len]
      exact ixN_nn hm.1 hm.2) fun H5 k5 _ o5 => ⟨k5 _ (e3.trans e4) hp, _, _, rfl, ?_⟩
    have : (L x).getD i 0 = t := by rw [List.getD_eq_getElem?_getD, hi]; rfl
    unfold spotsN
    rw [this]
    exact o5
  · rintro σ' H3 e3 ⟨o2, o3, rfl, o⟩
    exact ⟨_, rfl, q p H3 hp e3 o⟩
theorem ok_law_spots (T : Txt P K mg a) : FnOk P w K mg base CX0 1 a.f_law_spots a.d_law_spots ["order"] (spSpots K) := by
  refine T.F_law_spots.ok sc_law_spots lel1 (fun cdv A outer s H vs Q E hr h => ⟨_, (pss_cons (ps_set (i := 1) sc_law_spots.nd rfl (Or.inl rfl) (pe_op op_rep (pe_lst (pa_cons pe_int pa_nil)) (pe_callB (k_call_len_seq (K := K) rfl) (by rfl) T.z_len (by decide +kernel) (pa_cons (pv 0) pa_nil))))
  (pss_cons (ps_for PassesOwn.never rfl (pi_range1 (by rfl) T.z_range (pa_cons (pe_callB (k_call_len_seq (K := K) rfl) (by rfl) T.z_len (by decide +kernel) (pa_cons (pv 0) pa_nil)) pa_nil)) (pg_name (i := 2) sc_law_spots.nd rfl (Or.inl rfl))
  (pss_one (ps_asg (pv 2) (pg_sub (pv 1) (pe_ix (k_ix_tup (K := K) rfl) (pv 0) (pv 2) (fun _ _ => rfl)) set_list))))
  (pss_one (ps_ret (pv 1))))), ?_⟩)
  obtain ⟨v, x, rfl, r1, ⟨h1, h2⟩, q⟩ := h
  refine q_setL (K := K) (xs := List.replicate (List.length x) (0 : Int)) ?_ fun p H1 hp e1 o1 => ?_
  · exact EL.is (el_rep1 (x := (0 : Int)) (n := (List.length x : Int)) (el_lst (by walk_at "ev")) (by walk_at "ev") (by omega) (by omega)) (by rw [Int.toNat_natCast])
  refine q_rng (K := K) (n := (List.length x : Int)) (by walk_at "ev") (by omega) (by omega) fun H2 e2 => ⟨H, fun i σ' H' => ∃ o2, σ' = [some v, some (.ref p), o2] ∧ Z.Own K H' p (spotsN (L x) i), e1.trans e2, ⟨_, rfl, o1.mono e2⟩, ?_, ?_⟩
  · rintro i σ' H3 hi e3 ⟨o2, rfl, o⟩
    have hl : i < (L x).length := by show i < List.length x; omega
    have c1 := atI_D hl
    have hm := h2 _ (List.mem_of_getElem? (show (L x)[i]? = some ((L x).getD i 0) by rw [List.getD_eq_getElem?_getD, List.getElem?_eq_getElem hl]; rfl))
    refine s_put (K := K) (α := Int) (x := (i : Int)) (j := ((L x).getD i 0).toNat) rfl o (er_vint rfl) (fun H9 e9 => ER.evI (er_ixT (xs := x) (er_var rfl r1 (e3.trans e9)) (er_vint rfl) c1)) (by
      rw [spotsN_len]
      exact ixN_nn hm.1 hm.2) fun H5 k5 _ o5 => ⟨k5 _ e3 hp, _, rfl, o5⟩
  · rintro σ' H3 e3 ⟨o2, rfl, o⟩
    rw [Int.toNat_natCast] at o
    exact ⟨_, rfl, q p H3 hp e3 o⟩
-- int, truth
def spInt (K : PySem.W.Frag) : Sp := sp2 K (fun (_ _ : Int) => True) fun x y => decide (x = y)
theorem okW_law_int (T : Txt P K mg a) : FnW P w K mg base CX0 1 a.f_law_int a.d_law_int ["actual", "expected"] (spInt K) := by
  refine fun_okW T.F_law_int sc_law_int len2 (fun cdv A outer s H vs Q E hr h => ⟨_, (pss_one (ps_ret (pe_and (pe_callB (k_call_isi (K := K) rfl) (by rfl) T.z_isinstance (by decide +kernel) (pa_cons (pv 0) (pa_cons (pe_bltn (v := .ty "int") (by rfl) T.z_int (by decide +kernel) rfl) pa_nil))) (pe_and (pe_not (pe_callB (k_call_isi (K := K) rfl) (by rfl) T.z_isinstance (by decide +kernel) (pa_cons (pv 0) (pa_cons (pe_bltn (v := .ty "bool") (by rfl) T.z_bool (by decide +kernel) rfl) pa_nil)))) (pe_one (pe_cmpR op_eq (pv 0) (pv 1) (nomark _))))))), ?_⟩)
  obtain ⟨v, u, x, y, rfl, r1, r2, _, q⟩ := h
  obtain rfl := Rep.int r1
  obtain rfl := Rep.int r2
  exact s_ret (K := K) (x := decide (x = y)) (ER.is (by walk_at "ev") (by simp)) q
theorem ok_law_int (T : Txt P K mg a) : FnOk P w K mg base CX0 1 a.f_law_int a.d_law_int ["actual", "expected"] (spInt K) := (okW_law_int T).ok
def spTruth (K : PySem.W.Frag) : Sp := sp2 K (fun (_ _ : Bool) => True) fun x y => decide (x = y)
theorem ok_law_truth (T : Txt P K mg a) : FnOk P w K mg base CX0 1 a.f_law_truth a.d_law_truth ["actual", "expected"] (spTruth K) := by
  refine T.F_law_truth.ok sc_law_truth len2 (fun cdv A outer s H vs Q E hr h => ⟨_, (pss_one (ps_ret (pe_and (pe_callB (k_call_isi (K := K) rfl) (by rfl) T.z_isinstance (by decide +kernel) (pa_cons (pv 0) (pa_cons (pe_bltn (v := .ty "bool") (by rfl) T.z_bool (by decide +kernel) rfl) pa_nil))) (pe_one (pe_cmpR op_eq (pv 0) (pv 1) (nomark _)))))), ?_⟩)
  obtain ⟨v, u, x, y, rfl, r1, r2, _, q⟩ := h
  obtain rfl := Rep.bool r1
  obtain rfl := Rep.bool r2
  exact s_ret (K := K) (x := decide (x = y)) (ER.is (er_andU (er_isi_bool (er_vbl rfl)) (er_eqB (er_vbl rfl) (er_vbl rfl))) (by simp)) q
end
set_option Elab.async false
set_option linter.all false
set_option maxRecDepth 100000
set_option maxHeartbeats 400000
set_option autoImplicit false
open PySem L2 Z
open Evl (Ex)
/-- which pairs stand the other way round -/
def pairT (b a : List Int) (i j : Nat) : Bool := !decide (decide (b.getD i 0 < b.getD j 0) = decide (a.getD i 0 < a.getD j 0))
def rowN (b a : List Int) (i : Nat) : Nat → List (Tp Int)
  | 0 => []
  | j + 1 => rowN b a i j ++ if pairT b a i (i + 1 + j) = true then [(show Tp Int from [(i : Int), ((i + 1 + j : Nat) : Int)])] else []
def pairsN (b a : List Int) (n : Nat) : Nat → List (Tp Int)
  | 0 => []
  | i + 1 => pairsN b a n i ++ rowN b a i (n - (i + 1))
theorem rowN_succ (b a : List Int) (i j : Nat) : rowN b a i (j + 1) = rowN b a i j ++ if pairT b a i (i + 1 + j) = true then [(show Tp Int from [(i : Int), ((i + 1 + j : Nat) : Int)])] else [] := rfl
theorem rowN_len (b a : List Int) (i j : Nat) : (rowN b a i j).length ≤ j := by
  induction j with
  | zero => exact Nat.le_refl _
  | succ j ih =>
    rw [rowN_succ, List.length_append]
    split
    · show (rowN b a i j).length + 1 ≤ j + 1
      omega
    · show (rowN b a i j).length + 0 ≤ j + 1
      omega
theorem pairsN_len (b a : List Int) (n i : Nat) : (pairsN b a n i).length ≤ i * n := by
  induction i with
  | zero => show 0 ≤ _; omega
  | succ i ih =>
    show (pairsN b a n i ++ rowN b a i (n - (i + 1))).length ≤ _
    rw [List.length_append, Nat.add_mul, Nat.one_mul]
    have := rowN_len b a i (n - (i + 1))
    omega
theorem pairs_len {b a : List Int} {n i j : Nat} (hn : n ≤ 200) (hi : i < n) (hj : j < n) : (pairsN b a n i ++ rowN b a i j).length < 100000 := by
  rw [List.length_append]
  have h1 := pairsN_len b a n i
  have h2 := rowN_len b a i j
  have h3 : i * n ≤ 200 * 200 := Nat.mul_le_mul (by omega) hn
  omega
def pairs (x y : List Int) : List (Tp Int) := pairsN (spots x) (spots y) x.length x.length
section
variable {P : Program} {w : World} {K : PySem.W.Frag} {mg : Str → Option Value} {base : Heap} {a : Ad}
def spPairs (K : PySem.W.Frag) : Sp := sl2 K (fun (x y : Tp Int) => List.length x = List.length y ∧ List.length x ≤ 200 ∧ (∀ t, t ∈ L x → 0 ≤ t ∧ t < List.length x) ∧ ∀ t, t ∈ L y → 0 ≤ t ∧ t < List.length y) fun x y => pairs x y
theorem ok_unlike_pairs (T : Txt P K mg a) : FnOk P w K mg base CX0 2 a.f_unlike_pairs a.d_unlike_pairs ["first", "second"] (spPairs K) := by
  refine T.F_unlike_pairs.ok sc_unlike_pairs lel2 (fun cdv A outer s H vs Q E hr h => ⟨_, (pss_cons (ps_set (i := 2) sc_unlike_pairs.nd rfl (Or.inl rfl) (pe_call (ok_spots_of T) (hr.mono (by decide)) (by rfl) T.m_spots_of T.F_spots_of.kp T.b_spots_of .nil pass0 (pa_cons (pv 0) pa_nil)))
  (pss_cons (ps_set (i := 3) sc_unlike_pairs.nd rfl (Or.inl rfl) (pe_call (ok_spots_of T) (hr.mono (by decide)) (by rfl) T.m_spots_of T.F_spots_of.kp T.b_spots_of .nil pass0 (pa_cons (pv 1) pa_nil)))
  (pss_cons (ps_set (i := 4) sc_unlike_pairs.nd rfl (Or.inl rfl) (pe_lst pa_nil))
  (pss_cons (ps_for PassesOwn.never rfl (pi_range1 (by rfl) T.z_range (pa_cons (pe_callB (k_call_len_seq (K := K) rfl) (by rfl) T.z_len (by decide +kernel) (pa_cons (pv 2) pa_nil)) pa_nil)) (pg_name (i := 5) sc_unlike_pairs.nd rfl (Or.inl rfl))
  (pss_one (ps_for PassesOwn.never rfl (pi_range2 (by rfl) T.z_range (pa_cons (pe_op op_add (pv 5) pe_int) (pa_cons (pe_callB (k_call_len_seq (K := K) rfl) (by rfl) T.z_len (by decide +kernel) (pa_cons (pv 2) pa_nil)) pa_nil))) (pg_name (i := 6) sc_unlike_pairs.nd rfl (Or.inl rfl))
  (pss_one (ps_if (pt_cmpR op_ne (pe_cmpR op_lt (pe_ix (k_ix_list (K := K) rfl) (pv 2) (pv 5) (fun _ _ => rfl)) (pe_ix (k_ix_list (K := K) rfl) (pv 2) (pv 6) (fun _ _ => rfl)) (nomark _)) (pe_cmpR op_lt (pe_ix (k_ix_list (K := K) rfl) (pv 3) (pv 5) (fun _ _ => rfl)) (pe_ix (k_ix_list (K := K) rfl) (pv 3) (pv 6) (fun _ _ => rfl)) (nomark _)) (nomark _))
  (pss_one (ps_expr (k_pe_bm (K := K) rfl (pe_bm PySem.F.plainAttrs_list PySem.F.slot_list_append PySem.F.type_list_append mt_append (pv 4) (pa_cons (pe_tup (pa_cons (pv 5) (pa_cons (pv 6) pa_nil))) pa_nil)))))
  pss_nil)))))
  (pss_one (ps_ret (pv 4))))))), ?_⟩)
  obtain ⟨v, u, x, y, rfl, r1, r2, ⟨hl, hm, hb, hb'⟩, q⟩ := h
  refine q_setL (K := K) (xs := spots x) (el_c1 (x := x) (er_var rfl r1 (Ex.refl _)) ⟨by omega, hb⟩) fun pb H1 hpb e1 ob => ?_
  refine q_setL (K := K) (xs := spots y) (el_c1 (x := y) (er_var rfl r2 e1) ⟨by omega, hb'⟩) fun pa H2 hpa e2 oa => ?_
  refine q_setL (K := K) (α := Tp Int) (xs := []) (el_lst ea_nil) fun pf H3 hpf e3 of => ?_
  have ob3 := ob.mono (e2.trans e3)
  have oa3 := oa.mono e3
  have lb : (spots x).length = List.length x := spots_len _
  have la : (spots y).length = List.length x := (spots_len _).trans hl.symm
  refine q_rng (K := K) (n := (List.length x : Int)) (ER.is (ed_lenL (er_own rfl ob3 (Ex.refl _))) (by rw [lb])) (by omega) (by omega) fun H4 e4 => ⟨H2, fun i σ' H' => ∃ o1 o2, σ' = [some v, some u, some (.ref pb), some (.ref pa), some (.ref pf), o1, o2] ∧ Z.Own K H' pf (pairsN (spots x) (spots y) (List.length x) i), e3.trans e4, ⟨_, _, rfl, of.mono e4⟩, ?_, ?_⟩
  · rintro i σ' H5 hi e5 ⟨o1, o2, rfl, o⟩
    have hi' : i < List.length x := by omega
    refine s_rng2 (K := K) (lo := (i : Int) + 1) (hi := (List.length x : Int)) (by walk_at "ev") (ER.is (ed_lenL (er_own rfl (ob.mono e2) e5)) (by rw [lb])) (by omega) fun H6 e6 => ⟨H2, fun j σ' H' => ∃ o2, σ' = [some v, some u, some (.ref pb), some (.ref pa), some (.ref pf), some (.int i), o2] ∧ Z.Own K H' pf (pairsN (spots x) (spots y) (List.length x) i ++ rowN (spots x) (spots y) i j), e5.trans e6, ⟨_, rfl, by
      rw [show rowN (spots x) (spots y) i 0 = [] from rfl, List.append_nil]
      exact o.mono e6⟩, ?_, ?_⟩
    · rintro j σ' H7 hj e7 ⟨o2, rfl, o⟩
      have hj' : i + 1 + j < List.length x := by omega
      rw [show ((i : Int) + 1 + (j : Int)) = ((i + 1 + j : Nat) : Int) by push_cast; rfl]
      have c1 := atI_D (xs := spots x) (k := i) (by omega)
      have c2 := atI_D (xs := spots x) (k := i + 1 + j) (by omega)
      have c3 := atI_D (xs := spots y) (k := i) (by omega)
      have c4 := atI_D (xs := spots y) (k := i + 1 + j) (by omega)
      have ob7 := ob.mono (e2.trans e7)
      have oa7 := oa.mono e7
      refine s_if (K := K) (b := pairT (spots x) (spots y) i (i + 1 + j)) (et_test (er_neB (by walk_at "ev") (by walk_at "ev"))) (fun hb H8 e8 => ?_) (fun hb H8 e8 => ?_)
      · refine s_app (α := Tp Int) (l := 4) rfl (o.mono e8) (x := (show Tp Int from [(i : Int), ((i + 1 + j : Nat) : Int)])) (er_tup (ea_cons (er_vint rfl) (ea_cons (er_vint rfl) ea_nil))) ?_ fun H9 k9 _ o9 => ⟨k9 H2 (e7.trans e8) hpf, _, rfl, ?_⟩
        · exact pairs_len (by omega) hi' (by omega)
        · rw [rowN_succ, if_pos hb, ← List.append_assoc]
          exact o9
      · refine ⟨e7.trans e8, _, rfl, ?_⟩
        rw [rowN_succ, if_neg (by rw [hb]; decide), List.append_nil]
        exact o.mono e8
    · rintro σ' H7 e7 ⟨o2, rfl, o⟩
      refine ⟨e7, _, _, rfl, ?_⟩
      rw [show ((List.length x : Int) - ((i : Int) + 1)).toNat = List.length x - (i + 1) by omega] at o
      exact o
  · rintro σ' H5 e5 ⟨o1, o2, rfl, o⟩
    rw [Int.toNat_natCast] at o
    exact ⟨_, rfl, q pf H5 (fresh_back (e1.trans e2) hpf) ((e1.trans e2).trans e5) o⟩
theorem ok_law_unlike (T : Txt P K mg a) : FnOk P w K mg base CX0 2 a.f_law_unlike a.d_law_unlike ["first", "second"] (spPairs K) := by
  refine T.F_law_unlike.ok sc_law_unlike lel2 (fun cdv A outer s H vs Q E hr h => ⟨_, (pss_cons (ps_set (i := 2) sc_law_unlike.nd rfl (Or.inl rfl) (pe_call (ok_law_spots T) (hr.mono (by decide)) (by rfl) T.m__law_spots T.F_law_spots.kp T.b_law_spots .nil pass0 (pa_cons (pv 0) pa_nil)))
  (pss_cons (ps_set (i := 3) sc_law_unlike.nd rfl (Or.inl rfl) (pe_call (ok_law_spots T) (hr.mono (by decide)) (by rfl) T.m__law_spots T.F_law_spots.kp T.b_law_spots .nil pass0 (pa_cons (pv 1) pa_nil)))
  (pss_cons (ps_set (i := 4) sc_law_unlike.nd rfl (Or.inl rfl) (pe_lst pa_nil))
  (pss_cons (ps_for PassesOwn.never rfl (pi_range1 (by rfl) T.z_range (pa_cons (pe_callB (k_call_len_seq (K := K) rfl) (by rfl) T.z_len (by decide +kernel) (pa_cons (pv 2) pa_nil)) pa_nil)) (pg_name (i := 5) sc_law_unlike.nd rfl (Or.inl rfl))
  (pss_one (ps_for PassesOwn.never rfl (pi_range2 (by rfl) T.z_range (pa_cons (pe_op op_add (pv 5) pe_int) (pa_cons (pe_callB (k_call_len_seq (K := K) rfl) (by rfl) T.z_len (by decide +kernel) (pa_cons (pv 2) pa_nil)) pa_nil))) (pg_name (i := 6) sc_law_unlike.nd rfl (Or.inl rfl))
  (pss_one (ps_if (pt_cmpR op_ne (pe_cmpR op_lt (pe_ix (k_ix_list (K := K) rfl) (pv 2) (pv 5) (fun _ _ => rfl)) (pe_ix (k_ix_list (K := K) rfl) (pv 2) (pv 6) (fun _ _ => rfl)) (nomark _)) (pe_cmpR op_lt (pe_ix (k_ix_list (K := K) rfl) (pv 3) (pv 5) (fun _ _ => rfl)) (pe_ix (k_ix_list (K := K) rfl) (pv 3) (pv 6) (fun _ _ => rfl)) (nomark _)) (nomark _))
  (pss_one (ps_expr (k_pe_bm (K := K) rfl (pe_bm PySem.F.plainAttrs_list PySem.F.slot_list_append PySem.F.type_list_append mt_append (pv 4) (pa_cons (pe_tup (pa_cons (pv 5) (pa_cons (pv 6) pa_nil))) pa_nil)))))
  pss_nil)))))
  (pss_one (ps_ret (pv 4))))))), ?_⟩)
  obtain ⟨v, u, x, y, rfl, r1, r2, ⟨hl, hm, hb, hb'⟩, q⟩ := h
  refine q_setL (K := K) (xs := spots x) (el_c1 (x := x) (er_var rfl r1 (Ex.refl _)) ⟨by omega, hb⟩) fun pb H1 hpb e1 ob => ?_
  refine q_setL (K := K) (xs := spots y) (el_c1 (x := y) (er_var rfl r2 e1) ⟨by omega, hb'⟩) fun pa H2 hpa e2 oa => ?_
  refine q_setL (K := K) (α := Tp Int) (xs := []) (el_lst ea_nil) fun pf H3 hpf e3 of => ?_
  have ob3 := ob.mono (e2.trans e3)
  have oa3 := oa.mono e3
  have lb : (spots x).length = List.length x := spots_len _
  have la : (spots y).length = List.length x := (spots_len _).trans hl.symm
  refine q_rng (K := K) (n := (List.length x : Int)) (ER.is (ed_lenL (er_own rfl ob3 (Ex.refl _))) (by rw [lb])) (by omega) (by omega) fun H4 e4 => ⟨H2, fun i σ' H' => ∃ o1 o2, σ' = [some v, some u, some (.ref pb), some (.ref pa), some (.ref pf), o1, o2] ∧ Z.Own K H' pf (pairsN (spots x) (spots y) (List.length x) i), e3.trans e4, ⟨_, _, rfl, of.mono e4⟩, ?_, ?_⟩
  · rintro i σ' H5 hi e5 ⟨o1, o2, rfl, o⟩
    have hi' : i < List.length x := by omega
    refine s_rng2 (K := K) (lo := (i : Int) + 1) (hi := (List.length x : Int)) (by walk_at "ev") (ER.is (ed_lenL (er_own rfl (ob.mono e2) e5)) (by rw [lb])) (by omega) fun H6 e6 => ⟨H2, fun j σ' H' => ∃ o2, σ' = [some v, some u, some (.ref pb), some (.ref pa), some (.ref pf), some (.int i), o2] ∧ Z.Own K H' pf (pairsN (spots x) (spots y) (List.length x) i ++ rowN (spots x) (spots y) i j), e5.trans e6, ⟨_, rfl, by
      rw [show rowN (spots x) (spots y) i 0 = [] from rfl, List.append_nil]
      exact o.mono e6⟩, ?_, ?_⟩
    · rintro j σ' H7 hj e7 ⟨o2, rfl, o⟩
      have hj' : i + 1 + j < List.length x := by omega
      rw [show ((i : Int) + 1 + (j : Int)) = ((i + 1 + j : Nat) : Int) by push_cast; rfl]
      have c1 := atI_D (xs := spots x) (k := i) (by omega)
      have c2 := atI_D (xs := spots x) (k := i + 1 + j) (by omega)
      have c3 := atI_D (xs := spots y) (k := i) (by omega)
      have c4 := atI_D (xs := spots y) (k := i + 1 + j) (by omega)
      have ob7 := ob.mono (e2.trans e7)
      have oa7 := oa.mono e7
      refine s_if (K := K) (b := pairT (spots x) (spots y) i (i + 1 + j)) (et_test (er_neB (by walk_at "ev") (by walk_at "ev"))) (fun hb H8 e8 => ?_) (fun hb H8 e8 => ?_)
      · refine s_app (α := Tp Int) (l := 4) rfl (o.mono e8) (x := (show Tp Int from [(i : Int), ((i + 1 + j : Nat) : Int)])) (er_tup (ea_cons (er_vint rfl) (ea_cons (er_vint rfl) ea_nil))) ?_ fun H9 k9 _ o9 => ⟨k9 H2 (e7.trans e8) hpf, _, rfl, ?_⟩
        · exact pairs_len (by omega) hi' (by omega)
        · rw [rowN_succ, if_pos hb, ← List.append_assoc]
          exact o9
      · refine ⟨e7.trans e8, _, rfl, ?_⟩
        rw [rowN_succ, if_neg (by rw [hb]; decide), List.append_nil]
        exact o.mono e8
    · rintro σ' H7 e7 ⟨o2, rfl, o⟩
      refine ⟨e7, _, _, rfl, ?_⟩
      rw [show ((List.length x : Int) - ((i : Int) + 1)).toNat = List.length x - (i + 1) by omega] at o
      exact o
  · rintro σ' H5 e5 ⟨o1, o2, rfl, o⟩
    rw [Int.toNat_natCast] at o
    exact ⟨_, rfl, q pf H5 (fresh_back (e1.trans e2) hpf) ((e1.trans e2).trans e5) o⟩
end
set_option Elab.async false
set_option linter.all false
set_option maxRecDepth 100000
set_option maxHeartbeats 400000
set_option autoImplicit false
open PySem L2 Z
open Evl (Ex)
section
variable {P : Program} {w : World} {K : PySem.W.Frag} {mg : Str → Option Value} {base : Heap} {a : Ad}
def Small (x : List (Tp Int)) : Prop := x.length ≤ 50000 ∧ ∀ t : Tp Int, t ∈ x → List.length t ≤ 50000
def spEqual (K : PySem.W.Frag) : Sp := sp2 K (fun (x y : List (Tp Int)) => x = y ∧ Small x) fun _ _ => true
theorem ok_law_equal (T : Txt P K mg a) : FnOk P w K mg base CX0 2 a.f_law_equal a.d_law_equal ["actual", "expected"] (spEqual K) := by
  refine T.F_law_equal.ok sc_law_equal len2 (fun cdv A outer s H vs Q E hr h => ⟨_, (pss_cons (ps_if (PW.pt (pw_or (pt_not (pt_val (pe_callB (k_call_isi (K := K) rfl) (by rfl) T.z_isinstance (by decide +kernel) (pa_cons (pv 0) (pa_cons (pe_bltn (v := .ty "list") (by rfl) T.z_list (by decide +kernel) rfl) pa_nil))))) (pw_or1 (pt_cmpR op_ne (pe_callB (k_call_len_seq (K := K) rfl) (by rfl) T.z_len (by decide +kernel) (pa_cons (pv 0) pa_nil)) (pe_callB (k_call_len_seq (K := K) rfl) (by rfl) T.z_len (by decide +kernel) (pa_cons (pv 1) pa_nil)) (nomark _)))))
  (pss_one (ps_ret pe_bl))
  pss_nil)
  (pss_cons (ps_for PassesOwn.never rfl (pi_range1 (by rfl) T.z_range (pa_cons (pe_callB (k_call_len_seq (K := K) rfl) (by rfl) T.z_len (by decide +kernel) (pa_cons (pv 1) pa_nil)) pa_nil)) (pg_name (i := 2) sc_law_equal.nd rfl (Or.inr rfl))
  (pss_cons (ps_if (PW.pt (pw_or (pt_not (pt_val (pe_callB (k_call_isi (K := K) rfl) (by rfl) T.z_isinstance (by decide +kernel) (pa_cons (pe_ix (k_ix_list (K := K) rfl) (pv 0) (pv 2) (fun _ _ => rfl)) (pa_cons (pe_bltn (v := .ty "tuple") (by rfl) T.z_tuple (by decide +kernel) rfl) pa_nil))))) (pw_or1 (pt_cmpR op_ne (pe_callB (k_call_len_seq (K := K) rfl) (by rfl) T.z_len (by decide +kernel) (pa_cons (pe_ix (k_ix_list (K := K) rfl) (pv 0) (pv 2) (fun _ _ => rfl)) pa_nil)) (pe_callB (k_call_len_seq (K := K) rfl) (by rfl) T.z_len (by decide +kernel) (pa_cons (pe_ix (k_ix_list (K := K) rfl) (pv 1) (pv 2) (fun _ _ => rfl)) pa_nil)) (nomark _)))))
  (pss_one (ps_ret pe_bl))
  pss_nil)
  (pss_one (ps_if (pt_not (pt_val (pe_callB (k_cr_all (K := K) rfl rfl) (by rfl) T.z_all (by decide +kernel) (pa_cons (pe_lc (own := [("j", 3)]) rfl sc_law_equal.nd (pi_range1 (by rfl) T.z_range (pa_cons (pe_callB (k_call_len_seq (K := K) rfl) (by rfl) T.z_len (by decide +kernel) (pa_cons (pe_ix (k_ix_list (K := K) rfl) (pv 1) (pv 2) (fun _ _ => rfl)) pa_nil)) pa_nil)) (blkOk_by (own := [("j", 3)]) (N := N_law_equal) (sc := defScope s_law_equal) (by decide +kernel)) (fun _ _ _ _ _ => (pg_name (i := 3) sc_law_equal.nd rfl (Or.inl rfl))) (fun _ _ _ _ _ => pts_nil) (fun _ _ _ _ _ => (pe_call (ok_law_int T) (hr.mono (by decide)) (by rfl) T.m__law_int T.F_law_int.kp T.b_law_int .nil pass0 (pa_cons (pe_ix (k_ix_tup (K := K) rfl) (pe_ix (k_ix_list (K := K) rfl) (pv 0) (pv 2) (fun _ _ => rfl)) (pv 3) (fun _ _ => rfl)) (pa_cons (pe_ix (k_ix_tup (K := K) rfl) (pe_ix (k_ix_list (K := K) rfl) (pv 1) (pv 2) (fun _ _ => rfl)) (pv 3) (fun _ _ => rfl)) pa_nil))))) pa_nil))))
  (pss_one (ps_ret pe_bl))
  pss_nil))))
  (pss_one (ps_ret pe_bl)))), ?_⟩)
  obtain ⟨v, u, x, y, rfl, r1, r2, ⟨rfl, hs, ht⟩, q⟩ := h
  refine q_ifF (K := K) (by walk_at "ev") (by simp) fun H1 e1 => ?_
  refine q_rng (K := K) (by walk_at "ev") (by omega) (by omega) fun H2 e2 => ⟨H2, fun i σ' _ => ∃ o1 o2, σ' = [some v, some u, o1, o2], Ex.refl _, ⟨_, _, rfl⟩, ?_, ?_⟩
  · rintro i σ' H3 hi e3 ⟨o1, o2, rfl⟩
    obtain ⟨t, hm, hx, hat⟩ := atI_ex (xs := x) (k := i) (by omega)
    have htl := ht t hm
    have e03 : Ex H H3 := e1.trans (e2.trans e3)
    refine q_ifF (K := K) (by walk_at "ev") (by simp) fun H4 e4 => ?_
    have e04 : Ex H H4 := e03.trans e4
    refine s_ifF (K := K) (et_not (et_test (er_all (bs := (List.range ((List.length t : Int)).toNat).map fun _ => true) (EL.er (el_rmap (n := (List.length t : Int)) (by walk_at "ev") (by omega) (by omega) fun j H5 hj e5 => ?_))))) (by simp) fun H6 e6 => ⟨e3.trans (e4.trans e6), _, _, rfl⟩
    obtain ⟨z, _, hz, hbt⟩ := atI_ex (xs := L t) (k := j) (by show j < List.length t; omega)
    have e05 : Ex H H5 := e04.trans e5
    exact ER.is (er_c2 (x := z) (y := z) (by walk_at "ev") (by walk_at "ev") trivial) (by simp)
  · rintro σ' H3 e3 ⟨o1, o2, rfl⟩
    exact s_ret (K := K) (x := true) (by walk_at "ev") fun v H4 e4 r => q v H4 (e1.trans (e2.trans (e3.trans e4))) r
-- exchanged, swapped
theorem ok_exchanged (T : Txt P K mg a) : FnOk P w K mg base CX0 1 a.f_exchanged a.d_exchanged ["setting", "spot"] (sp2 K (fun (x : Tp Int) (k : Int) => 0 ≤ k ∧ k + 1 < List.length x ∧ List.length x ≤ 50000) fun x k => (show Tp Int from exch x k.toNat)) := by
  refine T.F_exchanged.ok sc_exchanged len2 (fun cdv A outer s H vs Q E hr h => ⟨_, (pss_one (ps_ret (pe_op (k_op_catA (K := K) rfl) (pe_op (k_op_catA (K := K) rfl) (pe_slice (k_sl_tupA (K := K) rfl) (pv 0) po_none (po_some (pv 1))) (pe_tup (pa_cons (pe_ix (k_ix_tup (K := K) rfl) (pv 0) (pe_op op_add (pv 1) pe_int) (fun _ _ => rfl)) (pa_cons (pe_ix (k_ix_tup (K := K) rfl) (pv 0) (pv 1) (fun _ _ => rfl)) pa_nil)))) (pe_slice (k_sl_tupA (K := K) rfl) (pv 0) (po_some (pe_op op_add (pv 1) pe_int)) po_none)))), ?_⟩)
  obtain ⟨v, u, x, k, rfl, r1, r2, ⟨h0, h1, h2⟩, q⟩ := h
  obtain rfl := Rep.int r2
  obtain ⟨k, rfl⟩ := Int.eq_ofNat_of_zero_le h0
  have q : ∀ (w : V) (H' : Hp), Ex H H' → Rep K H' w (show Tp Int from exch x k) → Q w H' := q
  have c1 := atI_D (xs := L x) (k := k) (by show k < List.length x; omega)
  have c2 : atI (L x) ((k : Int) + 1) = some ((L x).getD (k + 1) 0) := atI_D (xs := L x) (k := k + 1) (by show k + 1 < List.length x; omega)
  have t1 : cutD (L x) none (some (k : Int)) = (L x).take k := cut_take (by show k ≤ List.length x; omega)
  have t2 : cutD (L x) (some ((k : Int) + 2)) none = (L x).drop (k + 2) := cut_drop (xs := L x) (k := k + 2) (by show k + 2 ≤ List.length x; omega)
  have hl : (L x).length = List.length x := rfl
  refine s_ret (K := K) (x := (show Tp Int from exch x k)) ?_ q
  refine ER.is (er_catT (er_catT (er_slT (xs := x) (er_var rfl r1 (Ex.refl _)) eo_none (eo_some (er_vint rfl))) (er_tup (ea_cons (er_ixT (xs := x) (er_var rfl r1 (Ex.refl _)) (er_add (er_vint rfl) er_int) c2) (ea_cons (er_ixT (xs := x) (er_var rfl r1 (Ex.refl _)) (er_vint rfl) c1) ea_nil))) ?_) (er_slT (xs := x) (er_var rfl r1 (Ex.refl _)) (eo_some (er_add (er_vint rfl) er_int)) eo_none) ?_) ?_
  · show (cutD (L x) none (some (k : Int))).length + 2 ≤ 100000
    rw [t1, List.length_take]
    omega
  · show (cutD (L x) none (some (k : Int)) ++ [_, _]).length + (cutD (L x) (some ((k : Int) + 2)) none).length ≤ 100000
    rw [t1, t2, List.length_append, List.length_take, List.length_drop]
    show min k _ + 2 + _ ≤ _
    omega
  · show (cutD (L x) none (some (k : Int)) ++ [(L x).getD (k + 1) 0, (L x).getD k 0]) ++ cutD (L x) (some ((k : Int) + 2)) none = exch x k
    rw [t1, t2, ← exch_eq (xs := L x) (by show k + 1 < List.length x; omega), List.append_assoc]
    rfl
def swapD (x : List Int) (k j : Nat) : List Int := (x.set k (x.getD j 0)).set j (x.getD k 0)
theorem ok_law_swapped (T : Txt P K mg a) : FnOk P w K mg base CX0 1 a.f_law_swapped a.d_law_swapped ["order", "k", "j"] (sp3 K (fun (x : Tp Int) (k j : Int) => 0 ≤ k ∧ k < List.length x ∧ 0 ≤ j ∧ j < List.length x) fun x k j => (show Tp Int from swapD x k.toNat j.toNat)) := by
  refine T.F_law_swapped.ok sc_law_swapped len3 (fun cdv A outer s H vs Q E hr h => ⟨_, (pss_cons (ps_set (i := 3) sc_law_swapped.nd rfl (Or.inl rfl) (pe_callTy (k_call_list_of (K := K) rfl) (by rfl) T.z_list (by decide +kernel) (pa_cons (pv 0) pa_nil)))
  (pss_cons (ps_asg (pe_ix (k_ix_tup (K := K) rfl) (pv 0) (pv 2) (fun _ _ => rfl)) (pg_sub (pv 3) (pv 1) set_list))
  (pss_cons (ps_asg (pe_ix (k_ix_tup (K := K) rfl) (pv 0) (pv 1) (fun _ _ => rfl)) (pg_sub (pv 3) (pv 2) set_list))
  (pss_one (ps_ret (pe_callTy (k_call_tuple_of (K := K) rfl) (by rfl) T.z_tuple (by decide +kernel) (pa_cons (pv 3) pa_nil))))))), ?_⟩)
  obtain ⟨v, u, t, x, k, j, rfl, r1, r2, r3, ⟨h0, h1, h2, h3⟩, q⟩ := h
  obtain rfl := Rep.int r2
  obtain rfl := Rep.int r3
  obtain ⟨k, rfl⟩ := Int.eq_ofNat_of_zero_le h0
  obtain ⟨j, rfl⟩ := Int.eq_ofNat_of_zero_le h2
  have q : ∀ (w : V) (H' : Hp), Ex H H' → Rep K H' w (show Tp Int from swapD x k j) → Q w H' := q
  have c1 := atI_D (xs := L x) (k := k) (by show k < List.length x; omega)
  have c2 := atI_D (xs := L x) (k := j) (by show j < List.length x; omega)
  refine q_setL (K := K) (xs := L x) (el_listT (xs := x) (er_var rfl r1 (Ex.refl _))) fun p H1 hp e1 o1 => ?_
  refine q_put (K := K) (α := Int) (x := (L x).getD j 0) (j := k) rfl o1 (er_ixT (xs := x) (er_var rfl r1 e1) (er_vint rfl) c2) (fun H9 e9 => (er_vint rfl).evI) (by rw [ixN_nn h0 h1, Int.toNat_natCast]) fun H2 k2 _ o2 => ?_
  have e2 : Ex H H2 := k2 H e1 hp
  refine q_put (K := K) (α := Int) (x := (L x).getD k 0) (j := j) rfl o2 (er_ixT (xs := x) (er_var rfl r1 e2) (er_vint rfl) c1) (fun H9 e9 => (er_vint rfl).evI) (by rw [List.length_set, ixN_nn h2 h3, Int.toNat_natCast]) fun H3 k3 _ o3 => ?_
  have e3 : Ex H H3 := k3 H e2 hp
  exact s_ret (K := K) (x := (show Tp Int from swapD x k j)) (er_tuple (xs := swapD x k j) (er_own rfl o3 (Ex.refl _))) fun w H4 e4 r4 => q w H4 (e3.trans e4) r4
end
set_option Elab.async false
set_option linter.all false
set_option maxRecDepth 100000
set_option maxHeartbeats 400000
set_option autoImplicit false
open PySem L2 Z
open Evl (Ex)
section
variable {P : Program} {w : World} {K : PySem.W.Frag} {mg : Str → Option Value} {base : Heap} {a : Ad}
/-- an order of n things -/
def spOrder (K : PySem.W.Frag) : Sp := fun vs H Q _ => ∃ (c : Int) (n : Nat), vs = [.int c, .int n] ∧ n ≤ 50 ∧ ∀ (t : Tp Int) v H', IsOrd n t → Ex H H' → Rep K H' v t → Q v H'
theorem ok_law_order (T : Txt P K mg a) : FnOk P w K mg base CX0 2 a.f_law_order a.d_law_order ["cell", "count"] (spOrder K) := by
  refine T.F_law_order.ok sc_law_order (fun vs H Q E (h : spOrder K vs H Q E) => by obtain ⟨c, n, rfl, _⟩ := h; rfl) (fun cdv A outer s H vs Q E hr h => ⟨_, (pss_cons (ps_setLc (i := 2) (own := [("k", 5)]) rfl sc_law_order.nd rfl rfl (sw_true rfl rfl rfl (by decide +kernel)) (pi_range1 (by rfl) T.z_range (pa_cons (pv 1) pa_nil)) (blkOk_by (own := [("k", 5)]) (N := N_law_order) (sc := defScope s_law_order) (by decide +kernel)) (fun _ _ _ _ _ => (pg_name (i := 5) sc_law_order.nd rfl (Or.inl rfl))) (fun _ _ _ _ _ => pts_nil) (fun _ _ _ _ _ => (pv 5)))
  (pss_cons (ps_set (i := 3) sc_law_order.nd rfl (Or.inl rfl) (pe_lst pa_nil))
  (pss_cons (ps_for PassesOwn.never rfl (k_pi_list (K := K) rfl (pe_call (ok_law_draw T) (hr.mono (by decide)) (by rfl) T.m__law_draw T.F_law_draw.kp T.b_law_draw .nil pass0 (pa_cons (pv 0) (pa_cons (pe_lc (own := [("k", 5)]) rfl sc_law_order.nd (pi_range1 (by rfl) T.z_range (pa_cons (pv 1) pa_nil)) (blkOk_by (own := [("k", 5)]) (N := N_law_order) (sc := defScope s_law_order) (by decide +kernel)) (fun _ _ _ _ _ => (pg_name (i := 5) sc_law_order.nd rfl (Or.inl rfl))) (fun _ _ _ _ _ => pts_nil) (fun _ _ _ _ _ => (pe_op op_sub (pv 1) (pv 5)))) pa_nil)))) (pg_name (i := 4) sc_law_order.nd rfl (Or.inl rfl))
  (pss_cons (ps_expr (k_pe_bm (K := K) rfl (pe_bm PySem.F.plainAttrs_list PySem.F.slot_list_append PySem.F.type_list_append mt_append (pv 3) (pa_cons (pe_ix (k_ix_list (K := K) rfl) (pv 2) (pv 4) (fun _ _ => rfl)) pa_nil))))
  (pss_one (ps_set (i := 2) sc_law_order.nd rfl (Or.inl rfl) (pe_op op_cat (pe_slice (k_sl_list (K := K) rfl) (pv 2) po_none (po_some (pv 4))) (pe_slice (k_sl_list (K := K) rfl) (pv 2) (po_some (pe_op op_add (pv 4) pe_int)) po_none))))))
  (pss_one (ps_ret (pe_callTy (k_call_tuple_of (K := K) rfl) (by rfl) T.z_tuple (by decide +kernel) (pa_cons (pv 3) pa_nil))))))), ?_⟩)
  obtain ⟨c, n, rfl, hn, q⟩ := h
  refine q_setL (K := K) (xs := rng n) (EL.is (el_rmap (n := (n : Int)) (f := fun (k : Nat) => (k : Int)) (er_vint rfl) (by omega) (by omega) (fun k H' hk e => er_vint rfl)) (by rw [Int.toNat_natCast]; rfl)) fun pl H1 hpl e1 ol => ?_
  refine q_setL (K := K) (α := Int) (xs := []) (el_lst ea_nil) fun po H2 hpo e2 oo => ?_
  obtain ⟨bs, hbs⟩ : ∃ bs : List Int, bs = (List.range n).map fun (k : Nat) => (n : Int) - (k : Int) := ⟨_, rfl⟩
  have hb : ∀ i, i < n → bs[i]? = some ((n : Int) - (i : Int)) := fun i hi => by
    rw [hbs, List.getElem?_map, List.getElem?_range hi]
    rfl
  have hbl : bs.length = n := by rw [hbs, List.length_map, List.length_range]
  have hne : pl ≠ po := ol.ne hpo
  refine q_forL (K := K) (xs := drw c bs) (el_c2 (x := c) (y := bs) (er_vint rfl) (EL.er (EL.is (el_rmap (n := (n : Int)) (f := fun (k : Nat) => (n : Int) - (k : Int)) (er_vint rfl) (by omega) (by omega) (fun k H' hk e => er_sub (er_vint rfl) (er_vint rfl))) (by rw [Int.toNat_natCast, hbs]))) ⟨fun b hm => ?_, by omega⟩) fun pd H3 hpd e3 od => ?_
  · obtain ⟨i, hi, e⟩ := List.getElem_of_mem hm
    have := hb i (by omega)
    rw [List.getElem?_eq_getElem hi, e] at this
    have := Option.some.inj this
    omega
  have hdo : po ≠ pd := oo.ne hpd
  obtain ⟨w0, hw0⟩ := (oo.mono e3).at
  refine ⟨Z.cut H3 po, fun i σ' H' => ∃ (o : Option V) (pl' : Addr) (left order : List Int), σ' = [some (.int c), some (.int n), some (.ref pl'), some (.ref po), o, none] ∧ Ex H H' ∧ pl' ≠ po ∧ Z.Own K H' pl' left ∧ Z.Own K H' po order ∧ (order ++ left).Perm (rng n) ∧ left.length = n - i ∧ order.length ≤ i, cut_ex, od.cut hw0 hdo, ⟨none, pl, rng n, [], rfl, e1.trans (e2.trans e3), hne, ol.mono (e2.trans e3), oo.mono e3, List.Perm.refl _, by unfold rng; rw [List.length_map, List.length_range]; omega, Nat.le_refl _⟩, ?_, ?_⟩
  · rintro i d v σ' H4 hi e4 rd ⟨o, pl', left, order, rfl, eH, hne', ol', oo', hp, hl, hlo⟩
    obtain rfl := Rep.int rd
    have hin : i < n := by
      have := (List.getElem?_eq_some_iff.mp hi).1
      rw [draw_len, hbl] at this
      exact this
    obtain ⟨x, hx, hx0, hx1⟩ := draw_at (c := c) (hb i hin) (by omega)
    have hxd : x = d := by
      have := Z.atI_ofN hi
      rw [hx] at this
      exact Option.some.inj this
    subst hxd
    obtain ⟨k, rfl⟩ := Int.eq_ofNat_of_zero_le hx0
    have hk : k < left.length := by omega
    have c1 := atI_D hk
    refine q_app (K := K) (α := Int) (l := 3) rfl oo' (x := left.getD k 0) (er_ixL (er_own rfl ol' (Ex.refl _)) (er_vint rfl) c1) (by omega) fun H5 k5 _ o5 => ?_
    obtain ⟨w5, hw5⟩ := oo'.at
    have ol5 : Z.Own K H5 pl' left := (ol'.cut hw5 (Ne.symm hne')).mono (k5 _ cut_ex cut_same)
    have t1 : cutD left none (some (k : Int)) = left.take k := cut_take (by omega)
    have t2 : cutD left (some ((k : Int) + 1)) none = left.drop (k + 1) := cut_drop (k := k + 1) (by omega)
    refine s_setL (K := K) (xs := left.take k ++ left.drop (k + 1)) (EL.is (el_cat (el_sl (er_own rfl ol5 (Ex.refl _)) eo_none (eo_some (er_vint rfl))) (el_sl (er_own rfl ol5 (Ex.refl _)) (eo_some (er_add (er_vint rfl) er_int)) eo_none) (by
      rw [t1, t2, List.length_take, List.length_drop]
      omega)) (by rw [t1, t2])) fun pl2 H6 hpl2 e6 ol6 => ?_
    refine ⟨(k5 _ e4 cut_same).trans e6, _, pl2, _, _, rfl, (k5 H eH (fresh_back e1 hpo)).trans e6, Ne.symm (o5.ne hpl2), ol6, o5.mono e6, ?_, ?_, ?_⟩
    · refine List.Perm.trans ?_ hp
      rw [List.append_assoc]
      refine List.Perm.append_left _ ?_
      have e : left = left.take k ++ (left.getD k 0 :: left.drop (k + 1)) := by
        conv => lhs; rw [← List.take_append_drop k left]
        congr 1
        rw [List.drop_eq_getElem_cons hk, List.getD_eq_getElem?_getD, List.getElem?_eq_getElem hk]
        rfl
      conv => rhs; rw [e]
      show (left.getD k 0 :: (left.take k ++ left.drop (k + 1))).Perm _
      exact List.perm_middle.symm
    · rw [List.length_append, List.length_take, List.length_drop]
      omega
    · rw [List.length_append]
      show order.length + 1 ≤ _
      omega
  · rintro σ' H4 e4 ⟨o, pl', left, order, rfl, eH, hne', ol', oo', hp, hl, hlo⟩
    rw [draw_len, hbl, Nat.sub_self] at hl
    rw [List.length_eq_zero_iff.mp hl, List.append_nil] at hp
    exact s_ret (K := K) (x := (show Tp Int from order)) (er_tuple (xs := order) (er_own rfl oo' (Ex.refl _))) fun v H5 e5 r5 => q order v H5 (IsOrd.of_perm hp) (eH.trans e5) r5
end
set_option Elab.async false
set_option linter.all false
set_option maxRecDepth 100000
set_option maxHeartbeats 400000
set_option autoImplicit false
open PySem L2 Z
open Evl (Ex)
/-- a fact that is none: its place; -1: too many things or facts -/
def okF (n : Int) (t : Tp Int) : Prop := ∃ x y : Int, (show List Int from t) = [x, y] ∧ 0 ≤ x ∧ x < n ∧ 0 ≤ y ∧ y < n ∧ x ≠ y
def badF (n : Int) (x y : Int) : Bool := decide (min x y < 0) || (decide (n ≤ max x y) || decide (x = y))
def badFrom (n : Int) : List (Tp Int) → Nat → Option Int
  | [], _ => none
  | t :: ts, i => if badF n ((show List Int from t).getD 0 0) ((show List Int from t).getD 1 0) = true then some i else badFrom n ts (i + 1)
def badAt (n : Int) (fs : List (Tp Int)) : Option Int := if n < 0 ∨ 9 < n ∨ 36 < fs.length then some (-1) else badFrom n fs 0
theorem badFrom_none {n : Int} {xs : List (Tp Int)} {i : Nat} : (∀ t : Tp Int, t ∈ xs → badF n ((show List Int from t).getD 0 0) ((show List Int from t).getD 1 0) = false) ↔ badFrom n xs i = none := by
  induction xs generalizing i with
  | nil => exact ⟨fun _ => rfl, fun _ t ht => by cases ht⟩
  | cons t ts ih =>
    unfold badFrom
    cases hb : badF n ((show List Int from t).getD 0 0) ((show List Int from t).getD 1 0) with
    | true =>
      rw [if_pos rfl]
      refine ⟨fun h => ?_, fun h => by cases h⟩
      have := h t (List.mem_cons_self ..)
      rw [hb] at this
      cases this
    | false =>
      rw [if_neg Bool.false_ne_true, ← ih]
      exact ⟨fun h u hu => h u (List.mem_cons_of_mem _ hu), fun h u hu => by
        rcases List.mem_cons.mp hu with rfl | hu
        · exact hb
        · exact h u hu⟩
theorem badFrom_at {n : Int} {xs : List (Tp Int)} {i j : Nat} {t : Tp Int} (h : ∀ k u, k < j → xs[k]? = some u → badF n ((show List Int from u).getD 0 0) ((show List Int from u).getD 1 0) = false) (hj : xs[j]? = some t) (ht : badF n ((show List Int from t).getD 0 0) ((show List Int from t).getD 1 0) = true) : badFrom n xs i = some ((i + j : Nat) : Int) := by
  induction xs generalizing i j with
  | nil => cases hj
  | cons u us ih =>
    unfold badFrom
    cases j with
    | zero =>
      cases hj
      rw [if_pos ht]
      rfl
    | succ j =>
      rw [if_neg (by rw [h 0 u (Nat.succ_pos _) rfl]; decide), ih (j := j) (fun k v hk hv => h (k + 1) v (Nat.succ_lt_succ hk) hv) hj]
      congr 2
      omega
section
variable {P : Program} {w : World} {K : PySem.W.Frag} {mg : Str → Option Value} {base : Heap} {a : Ad}
theorem ok_BadWorldw_initw (T : Txt P K mg a) : FnOk P w K mg base CX0 1 a.f_BadWorldw_initw a.d_BadWorldw_initw ["self", "index"] (spX1 K a.C_BadWorld "index") :=
  T.F_BadWorldw_initw.ok sc_BadWorldw_initw len_X1 fun A outer s H vs Q E hr h => ⟨_, pssa_supE T.F_BadWorldw_initw sc_BadWorldw_initw rfl rfl (pa_cons pe_str pa_nil) (pssa_of (pss_one (ps_ost (pv 0) (pv 1)))),
    read_X1 T.S_BadWorldw_initw T.nf_BadWorld_index h (len_X1 _ _ _ _ h).symm⟩
/-- World.__init__ -/
def spWorld (K : PySem.W.Frag) : Sp := fun vs H Q _ => ∃ x C dx fs n, vs = [.ref x, .int n] ∧ H x = some (.ins C dx fs) ∧ fs.length < 1000 ∧ Cls K C ∧ NoAttr K C "size" ∧ Q .non (upd H x (.ins C dx (putF "size" (.int n) fs)))
theorem ok_Worldw_initw (T : Txt P K mg a) : FnOk P w K mg base CX0 1 a.f_Worldw_initw a.d_Worldw_initw ["self", "size"] (spWorld K) := by
  refine T.F_Worldw_initw.ok sc_Worldw_initw (fun vs H Q E (h : spWorld K vs H Q E) => by obtain ⟨x, C, dx, fs, n, rfl, _⟩ := h; rfl) (fun cdv A outer s H vs Q E hr h => ⟨_, (pss_one (k_ps_fld (K := K) rfl (ps_fld (pv 0) (pv 1) rfl))), ?_⟩)
  obtain ⟨x, C, dx, fs, n, rfl, h1, h2, h3, h4, q⟩ := h
  exact ⟨_, rfl, _, rfl, x, C, dx, fs, rfl, h1, h3, h4, h2, q⟩
/-- the orders of n things that keep the facts -/
def OrdAt (K : PySem.W.Frag) (C : Addr) (H : Hp) (r l : Addr) (n : Int) (fs : List (Tp Int)) : Prop := (∃ dx, H r = some (.ins C dx [("size", .int n), ("count", .int n), ("facts", .ref l)])) ∧ Z.Own K H l (sset 64 fs)
theorem OrdAt.mono {C : Addr} {G H : Hp} {r l : Addr} {n : Int} {fs : List (Tp Int)} (e : Ex G H) (h : OrdAt K C G r l n fs) : OrdAt K C H r l n fs := by
  obtain ⟨⟨dx, h1⟩, h2⟩ := h
  exact ⟨⟨dx, e _ _ h1⟩, h2.mono e⟩
def Two (fs : List (Tp Int)) : Prop := ∀ t : Tp Int, t ∈ fs → List.length t = 2
def spOrders (K : PySem.W.Frag) (C N : Addr) : Sp := fun vs H Q E => ∃ x n v fs, vs = [.ref x, .int n, v] ∧ (∃ dx, H x = some (.ins C dx [])) ∧ Rep K H v fs ∧ Two fs ∧ fs.length ≤ 50000 ∧
  (badAt n fs = none → ∀ H' l, H l = none → Ex (Z.cut H x) (Z.cut H' x) → OrdAt K C H' x l n fs → Q .non H') ∧
  (∀ k, badAt n fs = some k → ∀ d H', Ex H H' → H' d = some (.xd [("index", .int k)]) → E (.ref N) (some d) H')
theorem two_at {t : Tp Int} (h : List.length t = 2) : (show List Int from t) = [(show List Int from t).getD 0 0, (show List Int from t).getD 1 0] := by
  match t, h with
  | [x, y], _ => rfl
theorem ok_Ordersw_initw (T : Txt P K mg a) : FnOk P w K mg base (L2.CX P w) 3 a.f_Ordersw_initw a.d_Ordersw_initw ["self", "count", "facts"] (spOrders K a.C_Orders a.C_BadWorld) := by
  refine T.F_Ordersw_initw.ok sc_Ordersw_initw (fun vs H Q E (h : spOrders K a.C_Orders a.C_BadWorld vs H Q E) => by obtain ⟨x, n, v, fs, rfl, _⟩ := h; rfl) (fun A outer s H vs Q E hr h => ⟨_, (pssa_cons (ps_if (PW.pt (pw_or (pt_cmpR op_lt (pv 1) pe_int (nomark _)) (pw_or (pt_cmpR op_gt (pv 1) (pe_glob (v := .int 9) (by rfl) T.m_MOST_THINGS.choose_spec ⟨_, rfl⟩) (nomark _)) (pw_or1 (pt_cmpR op_gt (pe_callB (k_call_len_seq (K := K) rfl) (by rfl) T.z_len (by decide +kernel) (pa_cons (pv 2) pa_nil)) (pe_glob (v := .int 36) (by rfl) T.m_MOST_FACTS.choose_spec ⟨_, rfl⟩) (nomark _))))))
  (pss_one (ps_raise rfl (takes_of rfl rfl rfl rfl) (pmk_oex T.S_BadWorldw_initw.T T.i_BadWorldw_initw T.ti_BadWorldw_initw (ok_BadWorldw_initw T) (hr.mono (by decide)) T.b_BadWorldw_initw .nil pass0 (by rfl) T.m_BadWorld (pa_cons (pe_un un_neg pe_int) pa_nil))))
  pss_nil)
  (pssa_cons (ps_for (passes_of rfl) rfl (k_pi_enum (K := K) rfl (pi_enum (by rfl) T.z_enumerate (pa_cons (pv 2) pa_nil))) (k_pg_tup (K := K) rfl (pg_tup (n := 2) (by rfl) (pgs_cons (pg_name (i := 3) sc_Ordersw_initw.nd rfl (Or.inl rfl)) (pgs_cons (k_pg_tup (K := K) rfl (pg_tup (n := 2) (by rfl) (pgs_cons (pg_name (i := 4) sc_Ordersw_initw.nd rfl (Or.inl rfl)) (pgs_cons (pg_name (i := 5) sc_Ordersw_initw.nd rfl (Or.inl rfl)) pgs_nil)))) pgs_nil))))
  (pss_one (ps_if (PW.pt (pw_or (pt_cmpR op_lt (pe_callB (call_min2 rfl) (by rfl) T.z_min (by decide +kernel) (pa_cons (pv 4) (pa_cons (pv 5) pa_nil))) pe_int (nomark _)) (pw_or (pt_cmpR op_ge (pe_callB (call_max2 rfl) (by rfl) T.z_max (by decide +kernel) (pa_cons (pv 4) (pa_cons (pv 5) pa_nil))) (pv 1) (nomark _)) (pw_or1 (pt_cmpR op_eq (pv 4) (pv 5) (nomark _))))))
  (pss_one (ps_raise rfl (takes_of rfl rfl rfl rfl) (pmk_oex T.S_BadWorldw_initw.T T.i_BadWorldw_initw T.ti_BadWorldw_initw (ok_BadWorldw_initw T) (hr.mono (by decide)) T.b_BadWorldw_initw .nil pass0 (by rfl) T.m_BadWorld (pa_cons (pv 3) pa_nil))))
  pss_nil)))
  (pssa_supM T.F_Ordersw_initw sc_Ordersw_initw rfl rfl (ok_Worldw_initw T) (hr.mono (by decide)) T.b_Worldw_initw pass0 (pa_cons (pv 1) pa_nil) (pssa_of (pss_cons (k_ps_fld (K := K) rfl (ps_fld (pv 0) (pv 1) rfl))
  (pss_one (k_ps_fld (K := K) rfl (ps_fld (pv 0) (pe_callB (k_cr_sortedT (K := K) (P := P) (w := w) rfl rfl rfl rfl) (by rfl) T.z_sorted (by decide +kernel) (pa_cons (pe_callTy (k_cr_setOfT (K := K) (P := P) (w := w) rfl rfl rfl rfl hr.units) (by rfl) T.z_set (by decide +kernel) (pa_cons (pv 2) pa_nil)) pa_nil)) rfl)))))))), ?_⟩)
  obtain ⟨r, n, v, fs, rfl, ⟨dx, hr0⟩, rv, h2, hz, kq, ke⟩ := h
  refine q_if (K := K) (b := decide (n < 0) || (decide (9 < n) || decide (36 < (fs.length : Int)))) (et_orU (et_test (er_lt (er_vint rfl) er_int)) (et_orU (et_test (er_gt (er_vint rfl) er_int)) (et_test (er_gt (ed_lenL (er_var rfl rv (Ex.refl _))) er_int)))) (fun hb H1 e1 => ?_) (fun hb H1 e1 => ?_)
  · refine mk_X1 (K := K) (v := .int (-1)) (ER.evI (by walk_at "ev")) fun d H2 _ e2 hd => ke _ ?_ d H2 (e1.trans e2) hd
    unfold badAt
    rw [if_pos]
    simp at hb
    omega
  · have hb : 0 ≤ n ∧ n ≤ 9 ∧ fs.length ≤ 36 := by
      simp at hb
      omega
    have hat : badAt n fs = badFrom n fs 0 := if_neg (by omega)
    refine q_enumGV (K := K) (xs := fs) (v := v) rfl rv e1 (fun i σ' _ => (∃ o1 o2 o3, σ' = [some (.ref r), some (.int n), some v, o1, o2, o3]) ∧ ∀ k u, k < i → fs[k]? = some u → badF n ((show List Int from u).getD 0 0) ((show List Int from u).getD 1 0) = false) ⟨⟨_, _, _, rfl⟩, fun k u h => absurd h (Nat.not_lt_zero _)⟩ ?_ ?_
    · rintro i t w' σ' H3 H4 hi e3 e4 rt ⟨⟨o1, o2, o3, rfl⟩, hk⟩
      have tl := two_at (h2 t (List.mem_of_getElem? hi))
      refine g_pair (K := K) (rt.mono (e3.trans e4)) tl ⟨rfl, ?_⟩
      refine s_if (K := K) (b := badF n ((show List Int from t).getD 0 0) ((show List Int from t).getD 1 0)) (et_orU (et_test (er_lt (er_min2 (er_vint rfl) (er_vint rfl)) er_int)) (et_orU (et_test (er_ge (er_max2 (er_vint rfl) (er_vint rfl)) (er_vint rfl))) (et_test (er_eqI (er_vint rfl) (er_vint rfl))))) (fun hb H5 e5 => ?_) (fun hb H5 e5 => ?_)
      · refine mk_X1 (K := K) (v := .int i) (ER.evI (by walk_at "ev")) fun d H6 _ e6 hd => ke i ?_ d H6 (e3.trans (e4.trans (e5.trans e6))) hd
        rw [hat, badFrom_at hk hi hb, Nat.zero_add]
      · refine ⟨e3.trans (e4.trans e5), ⟨_, _, _, rfl⟩, fun k u hk' hu => ?_⟩
        rcases Nat.lt_succ_iff_lt_or_eq.mp hk' with h | h
        · exact hk k u h hu
        · subst h
          rw [hi] at hu
          cases hu
          exact hb
    · rintro σ' H3 e3 ⟨⟨o1, o2, o3, rfl⟩, hk⟩
      have hgood : badAt n fs = none := by
        rw [hat]
        exact badFrom_none.mp fun t ht => by
          obtain ⟨k, hlt, hk'⟩ := List.getElem_of_mem ht
          exact hk k t hlt (by rw [List.getElem?_eq_getElem hlt, hk'])
      have hr3 : H3 r = some (.ins a.C_Orders dx []) := e3 _ _ hr0
      refine ⟨r, a.C_Orders, dx, [], rfl, hr3, T.S_Ordersw_initw, fun qm hqm hqr => ⟨_, rfl, upd_same, r, a.C_Orders, dx, [], n, rfl, by rw [upd_ne (Ne.symm hqr)]; exact hr3, by decide, T.cl_Orders, T.na_Orders_size, ?_⟩⟩
      refine ⟨_, rfl, _, rfl, r, a.C_Orders, dx, _, rfl, upd_same, T.cl_Orders, T.na_Orders_count, by show 1 < 1000; decide, ?_⟩
      have c0 : Ex (Z.cut H r) (upd (upd (upd H3 qm (.met a.f_Worldw_initw r)) r (.ins a.C_Orders dx (putF "size" (.int n) []))) r (.ins a.C_Orders dx (putF "count" (.int n) (putF "size" (.int n) [])))) :=
        ex_mut (ex_mut ((cut_ex.trans e3).trans (Evl.Ex.new hqm)) cut_same) cut_same
      have hrow : Rows 2 64 fs := fun t ht => ⟨h2 t ht, fun m hm => by
        have hb2 : badF n (List.getD (α := Int) t 0 0) (List.getD (α := Int) t 1 0) = false := badFrom_none.mpr (hat ▸ hgood) t ht
        rw [two_at (h2 t ht)] at hm
        unfold badF at hb2
        simp only [Bool.or_eq_false_iff, decide_eq_false_iff_not] at hb2
        rcases List.mem_cons.mp hm with rfl | hm
        · show 0 ≤ List.getD (α := Int) t 0 0 ∧ List.getD (α := Int) t 0 0 < 64
          omega
        · have : m = List.getD (α := Int) t 1 0 := List.mem_singleton.mp hm
          omega⟩
      refine el_sset (K := K) (P := P) (w := w) (d := 2) (B := 64) (xs := fs) (er_var rfl (rep_cutI rv hr0) c0) (by omega) (by decide) hrow _ (Ex.refl _) _ fun l H6 hl e6 o6 => ?_
      have hlr : l ≠ r := fun z => by rw [z, upd_same] at hl; cases hl
      have hr6 := e6 _ _ (upd_same (H := upd (upd H3 qm (.met a.f_Worldw_initw r)) r (.ins a.C_Orders dx (putF "size" (.int n) []))) (a := r) (o := .ins a.C_Orders dx (putF "count" (.int n) (putF "size" (.int n) []))))
      have hlH : H l = none := by
        rw [upd_ne hlr, upd_ne hlr] at hl
        exact fresh_back (e3.trans (Evl.Ex.new hqm)) hl
      refine ⟨_, rfl, r, a.C_Orders, dx, _, rfl, hr6, T.cl_Orders, T.na_Orders_facts, by show 2 < 1000; decide, kq hgood _ l hlH ?_ ⟨⟨dx, upd_same⟩, ?_⟩⟩
      · rw [cut_upd]
        refine Ex.trans ?_ (cut_mono e6)
        rw [cut_upd, cut_upd]
        exact cut_mono (e3.trans (Evl.Ex.new hqm))
      · obtain ⟨ws, g1, g2⟩ := o6.ex
        have hc : Z.cut H6 l r = _ := (cut_ne (Ne.symm hlr)).trans hr6
        exact ⟨ws, by rw [upd_ne hlr]; exact g1, by rw [cut_upd_ne (Ne.symm hlr)]; exact g2.imm (Tups.insU hc)⟩
end
set_option Elab.async false
set_option linter.all false
set_option maxRecDepth 100000
set_option maxHeartbeats 400000
set_option autoImplicit false
open PySem L2 Z
open Evl (Ex)
/-- a fact kept by an order -/
def kept (x : List Int) (t : Tp Int) : Bool := decide ((spots x).getD (List.getD (α := Int) t 0 0).toNat 0 < (spots x).getD (List.getD (α := Int) t 1 0).toNat 0)
def isOrd (n : Nat) (fs : List (Tp Int)) (x : List Int) : Bool := decide (IsOrd n x) && fs.all (kept x)
/-- facts among n things -/
def Good (n : Nat) (fs : List (Tp Int)) : Prop := ∀ t : Tp Int, t ∈ fs → List.length t = 2 ∧ ∀ m, m ∈ (show List Int from t) → 0 ≤ m ∧ m < n
theorem isOrd_set {n : Nat} {fs gs : List (Tp Int)} {x : List Int} (h : ∀ t, t ∈ fs ↔ t ∈ gs) : isOrd n fs x = isOrd n gs x := by
  unfold isOrd
  congr 1
  rw [Bool.eq_iff_iff, List.all_eq_true, List.all_eq_true]
  exact ⟨fun k t ht => k t ((h t).mpr ht), fun k t ht => k t ((h t).mp ht)⟩
theorem Good.at {n : Nat} {fs : List (Tp Int)} (h : Good n fs) {t : Tp Int} (ht : t ∈ fs) : 0 ≤ List.getD (α := Int) t 0 0 ∧ List.getD (α := Int) t 0 0 < n ∧ 0 ≤ List.getD (α := Int) t 1 0 ∧ List.getD (α := Int) t 1 0 < n := by
  obtain ⟨l2, hb⟩ := h t ht
  have e := two_at l2
  have h1 := hb (List.getD (α := Int) t 0 0) (by rw [e]; exact List.mem_cons_self ..)
  have h2 := hb (List.getD (α := Int) t 1 0) (by rw [e]; exact List.mem_cons_of_mem _ (List.mem_cons_self ..))
  exact ⟨h1.1, h1.2, h2.1, h2.2⟩
section
variable {P : Program} {w : World} {K : PySem.W.Frag} {mg : Str → Option Value} {base : Heap} {a : Ad}
theorem OrdAt.fld (T : Txt P K mg a) {G H : Hp} {r l : Addr} {n : Int} {fs : List (Tp Int)} {te : TE} {σ : L2.St} (h : EV K te σ H (.ref r)) (at_ : OrdAt K a.C_Orders G r l n fs) (e : Ex G H) : ER K (tFld K te "count") σ H n ∧ EM K (tFld K te "facts") σ H (sset 64 fs) ∧ ER K (tFld K te "size") σ H n := by
  obtain ⟨⟨dx, h1⟩, h2⟩ := at_
  exact ⟨EV.er (ev_fld h h1 e T.cl_Orders T.na_Orders_count rfl) (rep_int n), em_fld h h1 e T.cl_Orders T.na_Orders_facts rfl h2, EV.er (ev_fld h h1 e T.cl_Orders T.na_Orders_size rfl) (rep_int n)⟩
def spIsAns (K : PySem.W.Frag) (C : Addr) : Sp := fun vs H Q _ => ∃ (r l : Addr) (n : Nat) (fs : List (Tp Int)) (v : V) (x : List Int), vs = [.ref r, v] ∧ OrdAt K C H r l n fs ∧ Good n fs ∧ fs.length ≤ 50000 ∧ n ≤ 200 ∧ Rep K H v (show Tp Int from x) ∧ List.length (α := Int) x ≤ 50000 ∧ ∀ H', Ex H H' → Q (.bl (isOrd n fs x)) H'
theorem ok_Orders_is_answer (T : Txt P K mg a) : FnOk P w K mg base CX0 2 a.f_Orders_is_answer a.d_Orders_is_answer ["self", "setting"] (spIsAns K a.C_Orders) := by
  refine T.F_Orders_is_answer.ok sc_Orders_is_answer (fun vs H Q E (h : spIsAns K a.C_Orders vs H Q E) => by obtain ⟨r, l, n, fs, v, x, rfl, _⟩ := h; rfl) (fun cdv A outer s H vs Q E hr h => ⟨_, (pss_cons (ps_if (pt_cmpR (k_op_neD (K := K) rfl hr.units) (pe_callB (k_cr_sortedIT (K := K) rfl) (by rfl) T.z_sorted (by decide +kernel) (pa_cons (pv 1) pa_nil)) (pe_listRg rfl (by rfl) T.z_list (prg_1 (by rfl) T.z_range (k_pe_fld (K := K) rfl (pe_fld (pv 0) (by rfl))))) (nomark _))
  (pss_one (ps_ret pe_bl))
  pss_nil)
  (pss_cons (ps_set (i := 2) sc_Orders_is_answer.nd rfl (Or.inr rfl) (pe_call (ok_spots_of T) (hr.mono (by decide)) (by rfl) T.m_spots_of T.F_spots_of.kp T.b_spots_of .nil pass0 (pa_cons (pv 1) pa_nil)))
  (pss_one (ps_ret (pe_callB (k_cr_all (K := K) rfl rfl) (by rfl) T.z_all (by decide +kernel) (pa_cons (pe_lc (own := [("one", 3), ("other", 4)]) rfl sc_Orders_is_answer.nd (k_pi_list (K := K) rfl (k_pe_fld (K := K) rfl (pe_fld (pv 0) (by rfl)))) (blkOk_by (own := [("one", 3), ("other", 4)]) (N := N_Orders_is_answer) (sc := defScope s_Orders_is_answer) (by decide +kernel)) (fun _ _ _ _ _ => (k_pg_tup (K := K) rfl (pg_tup (n := 2) (by rfl) (pgs_cons (pg_name (i := 3) sc_Orders_is_answer.nd rfl (Or.inl rfl)) (pgs_cons (pg_name (i := 4) sc_Orders_is_answer.nd rfl (Or.inl rfl)) pgs_nil))))) (fun _ _ _ _ _ => pts_nil) (fun _ _ _ _ _ => (pe_cmpR op_lt (pe_ix (k_ix_list (K := K) rfl) (pv 2) (pv 3) (fun _ _ => rfl)) (pe_ix (k_ix_list (K := K) rfl) (pv 2) (pv 4) (fun _ _ => rfl)) (nomark _)))) pa_nil)))))), ?_⟩)
  obtain ⟨r, l, n, fs, v, x, rfl, at_, gf, hz, hn, rx, hx, q⟩ := h
  have rng_e : ((List.range ((n : Int)).toNat).map fun (k : Nat) => (k : Int)) = rng n := rfl
  refine q_if (K := K) (b := !decide (srtK (fun x : Int => x) x = rng n)) (et_test (er_neD (α := List Int) (EL.er (el_sortIT (xs := x) (er_var rfl rx (Ex.refl _)))) (EL.er (EL.is (el_listRg (n := (n : Int)) (OrdAt.fld T (ev_var rfl) at_ (Ex.refl _)).1 (by omega) (by omega)) rng_e)))) (fun hb H1 e1 => ?_) (fun hb H1 e1 => ?_)
  · have hno : ¬ IsOrd n x := of_decide_eq_false (Bool.not_eq_true' _ ▸ hb)
    refine s_ret (K := K) (x := false) er_bl fun w H2 e2 r2 => ?_
    rw [Rep.bool r2]
    have : isOrd n fs x = false := by unfold isOrd; simp [hno]
    rw [← this]
    exact q H2 (e1.trans e2)
  · have ho : IsOrd n x := of_decide_eq_true (Bool.not_eq_false' _ ▸ hb)
    have hl : List.length (α := Int) x = n := ho.len
    refine q_setL (K := K) (xs := spots x) (el_c1 (x := (show Tp Int from x)) (er_var rfl rx e1) ⟨hx, fun t ht => by
      have := ho.bd ht
      rw [hl]
      exact this⟩) fun p H2 hp e2 o2 => ?_
    have e02 := e1.trans e2
    have hmem : ∀ t : Tp Int, t ∈ sset 64 fs ↔ t ∈ fs := fun t => sset_mem
    refine s_ret (K := K) (x := isOrd n fs x) (ER.is (er_all (EL.er (el_mapP (f := kept x) (by decide) (EM.er (OrdAt.fld T (ev_var rfl) at_ e02).2.1) (fun t ht => (gf t ((hmem t).mp ht)).1) (fun t H3 ht e3 => ?_) ?_))) ?_) fun w H3 e3 r3 => ?_
    · obtain ⟨b1, b2, b3, b4⟩ := gf.at ((hmem t).mp ht)
      have sl : (spots x).length = n := (spots_len _).trans hl
      have c1 : atI (spots x) (List.getD (α := Int) t 0 0) = some ((spots x).getD (List.getD (α := Int) t 0 0).toNat 0) := by
        obtain ⟨k, hk⟩ := Int.eq_ofNat_of_zero_le b1
        rw [hk]
        exact atI_D (by omega)
      have c2 : atI (spots x) (List.getD (α := Int) t 1 0) = some ((spots x).getD (List.getD (α := Int) t 1 0).toNat 0) := by
        obtain ⟨k, hk⟩ := Int.eq_ofNat_of_zero_le b3
        rw [hk]
        exact atI_D (by omega)
      exact er_lt (er_ixL (er_own rfl o2 e3) (er_vint rfl) c1) (er_ixL (er_own rfl o2 e3) (er_vint rfl) c2)
    · have := sset_len (B := 64) (xs := fs)
      omega
    · rw [isOrd_set (gs := sset 64 fs) fun t => (hmem t).symm]
      unfold isOrd
      rw [decide_eq_true ho, Bool.true_and, List.all_map]
      rfl
    · rw [Rep.bool r3]
      exact q H3 (e02.trans e3)
end
set_option Elab.async false
set_option linter.all false
set_option maxRecDepth 100000
set_option maxHeartbeats 400000
set_option autoImplicit false
open PySem L2 Z
open Evl (Ex)
def isChg (n : Nat) (fs : List (Tp Int)) (x y : List Int) : Bool := (isOrd n fs x && isOrd n fs y) && (List.range (n - 1)).any fun k => decide (exch x k = y)
theorem isOrd_of {n : Nat} {fs : List (Tp Int)} {x : List Int} (h : isOrd n fs x = true) : IsOrd n x := by
  unfold isOrd at h
  exact of_decide_eq_true (Bool.and_eq_true_iff.mp h).1
/-- two neighbours, by the places at which they differ -/
theorem chg_two {n : Nat} {x y : List Int} (hx : IsOrd n x) (hy : IsOrd n y) {p q : Nat} (h : unl x y = [p, q]) : decide (q = p + 1) = (List.range (n - 1)).any fun k => decide (exch x k = y) := by
  have hq : q ∈ unl x y := by rw [h]; simp
  have hp : p ∈ unl x y := by rw [h]; simp
  have lq : q < n := by
    unfold unl at hq
    have := List.mem_range.mp (List.mem_filter.mp hq).1
    rw [hx.len] at this
    exact this
  by_cases e : q = p + 1
  · subst e
    rw [decide_eq_true rfl]
    refine (List.any_eq_true.mpr ⟨p, List.mem_range.mpr (by omega), decide_eq_true ((change_iff hx hy p lq).mp h)⟩).symm
  · rw [decide_eq_false e]
    refine (List.any_eq_false.mpr fun k hk => ?_).symm
    have hk := List.mem_range.mp hk
    rw [decide_eq_true_iff]
    intro z
    have := (change_iff hx hy k (by omega)).mpr z
    rw [h] at this
    cases this
    exact e rfl
theorem chg_not {n : Nat} {x y : List Int} (hx : IsOrd n x) (hy : IsOrd n y) (h : (unl x y).length ≠ 2) : false = (List.range (n - 1)).any fun k => decide (exch x k = y) := by
  refine (List.any_eq_false.mpr fun k hk => ?_).symm
  have hk := List.mem_range.mp hk
  rw [decide_eq_true_iff]
  intro z
  exact h (by rw [(change_iff hx hy k (by omega)).mpr z]; rfl)
section
variable {P : Program} {w : World} {K : PySem.W.Frag} {mg : Str → Option Value} {base : Heap} {a : Ad}
theorem er_isAns {C : Addr} {E : XK} {G H : Hp} {te tu : TE} {σ : L2.St} {r l : Addr} {n : Nat} {fs : List (Tp Int)} {x : List Int} (h : EV K te σ H (.ref r)) (at_ : OrdAt K C G r l n fs) (e : Ex G H) (gf : Good n fs) (hz : fs.length ≤ 50000) (hn : n ≤ 200)
    (hu : ER K tu σ H (show Tp Int from x)) (hx : x.length ≤ 50000) : ER K (tMeth C "is_answer" (spIsAns K C) [] E te (tCons tu tNil)) σ H (isOrd n fs x) := fun H1 e1 Q q =>
  h H1 e1 _ fun H2 e2 => by
    obtain ⟨⟨dx, h1⟩, h2⟩ := at_.mono (e.trans (e1.trans e2))
    refine ⟨r, dx, _, rfl, h1, rfl, hu H2 (e1.trans e2) _ fun v H3 e3 rv => ⟨r, l, n, fs, v, x, rfl, at_.mono (e.trans (e1.trans (e2.trans e3))), gf, hz, hn, rv, hx, fun H4 e4 => q _ H4 (e2.trans (e3.trans e4)) (rep_bool _)⟩⟩
def spIsChg (K : PySem.W.Frag) (C : Addr) : Sp := fun vs H Q _ => ∃ (r l : Addr) (n : Nat) (fs : List (Tp Int)) (v u : V) (x y : List Int), vs = [.ref r, v, u] ∧ OrdAt K C H r l n fs ∧ Good n fs ∧ fs.length ≤ 50000 ∧ n ≤ 200 ∧ Rep K H v (show Tp Int from x) ∧ Rep K H u (show Tp Int from y) ∧ x.length ≤ 50000 ∧ y.length ≤ 50000 ∧ ∀ H', Ex H H' → Q (.bl (isChg n fs x y)) H'
theorem ok_Orders_is_change (T : Txt P K mg a) : FnOk P w K mg base CX0 3 a.f_Orders_is_change a.d_Orders_is_change ["self", "first", "second"] (spIsChg K a.C_Orders) := by
  refine T.F_Orders_is_change.ok sc_Orders_is_change (fun vs H Q E (h : spIsChg K a.C_Orders vs H Q E) => by obtain ⟨r, l, n, fs, v, u, x, y, rfl, _⟩ := h; rfl) (fun cdv A outer s H vs Q E hr h => ⟨_, (pss_cons (ps_if (PW.pt (pw_or (pt_not (pt_val (pe_meth (pv 0) T.cl_Orders T.me_Orders_is_answer (ok_Orders_is_answer T) (hr.mono (by decide)) T.b_Orders_is_answer .nil pass0 (pa_cons (pv 1) pa_nil)))) (pw_or1 (pt_not (pt_val (pe_meth (pv 0) T.cl_Orders T.me_Orders_is_answer (ok_Orders_is_answer T) (hr.mono (by decide)) T.b_Orders_is_answer .nil pass0 (pa_cons (pv 2) pa_nil)))))))
  (pss_one (ps_ret pe_bl))
  pss_nil)
  (pss_cons (ps_set (i := 3) sc_Orders_is_change.nd rfl (Or.inl rfl) (pe_call (ok_unlike T) (hr.mono (by decide)) (by rfl) T.m_unlike T.F_unlike.kp T.b_unlike .nil pass0 (pa_cons (pv 1) (pa_cons (pv 2) pa_nil))))
  (pss_one (ps_ret (pe_and (pe_cmpR op_eq (pe_callB (k_call_len_seq (K := K) rfl) (by rfl) T.z_len (by decide +kernel) (pa_cons (pv 3) pa_nil)) pe_int (nomark _)) (pe_one (pe_cmpR op_eq (pe_ix (k_ix_list (K := K) rfl) (pv 3) pe_int (fun _ _ => rfl)) (pe_op op_add (pe_ix (k_ix_list (K := K) rfl) (pv 3) pe_int (fun _ _ => rfl)) pe_int) (nomark _)))))))), ?_⟩)
  obtain ⟨r, l, n, fs, v, u, x, y, rfl, at_, gf, hz, hn, rx, ry, hx, hy, q⟩ := h
  refine q_if (K := K) (b := !isOrd n fs x || !isOrd n fs y) (et_orU (et_not (et_B (er_isAns (ev_var rfl) at_ (Ex.refl _) gf hz hn (er_var rfl rx (Ex.refl _)) hx))) (et_not (et_B (er_isAns (ev_var rfl) at_ (Ex.refl _) gf hz hn (er_var rfl ry (Ex.refl _)) hy)))) (fun hb H1 e1 => ?_) (fun hb H1 e1 => ?_)
  · refine s_ret (K := K) (x := false) er_bl fun w H2 e2 r2 => ?_
    rw [Rep.bool r2]
    have : isChg n fs x y = false := by
      unfold isChg
      rw [Bool.and_eq_false_iff]
      left
      rw [← Bool.not_and] at hb
      exact Bool.not_eq_true' _ ▸ hb
    rw [← this]
    exact q H2 (e1.trans e2)
  · have hb : isOrd n fs x = true ∧ isOrd n fs y = true := by
      rw [← Bool.not_and] at hb
      have : (isOrd n fs x && isOrd n fs y) = true := Bool.not_eq_false' _ ▸ hb
      exact Bool.and_eq_true_iff.mp this
    have ox := isOrd_of hb.1
    have oy := isOrd_of hb.2
    have hchg : isChg n fs x y = (List.range (n - 1)).any fun k => decide (exch x k = y) := by
      unfold isChg
      rw [hb.1, hb.2]
      rfl
    refine q_setL (K := K) (xs := unlI x y) (el_c2 (x := (show Tp Int from x)) (y := (show Tp Int from y)) (er_var rfl rx e1) (er_var rfl ry e1) ⟨by show x.length ≤ y.length; rw [ox.len, oy.len]; exact Nat.le_refl _, hx⟩) fun p H2 hp e2 o2 => ?_
    have e02 := e1.trans e2
    have hl : (unlI x y).length = (unl x y).length := List.length_map ..
    refine s_ret (K := K) (x := isChg n fs x y) ?_ fun w H3 e3 r3 => ?_
    · by_cases h2 : (unl x y).length = 2
      · obtain ⟨i, j, hij⟩ : ∃ i j, unl x y = [i, j] := by
          match h : unl x y, h2 with
          | [i, j], _ => exact ⟨i, j, rfl⟩
        have hI : unlI x y = [(i : Int), (j : Int)] := by unfold unlI; rw [hij]; rfl
        rw [hI] at o2
        have c0 : atI [(i : Int), (j : Int)] 0 = some (i : Int) := rfl
        have c1 : atI [(i : Int), (j : Int)] 1 = some (j : Int) := rfl
        refine ER.is (er_andU (er_eqI (ed_lenL (er_own rfl o2 (Ex.refl _))) er_int) (er_eqI (er_ixL (er_own rfl o2 (Ex.refl _)) er_int c1) (er_add (er_ixL (er_own rfl o2 (Ex.refl _)) er_int c0) er_int))) ?_
        rw [hchg, ← chg_two ox oy hij]
        show (true && decide ((j : Int) = (i : Int) + 1)) = decide (j = i + 1)
        rw [Bool.true_and]
        by_cases e : j = i + 1
        · rw [decide_eq_true e, decide_eq_true (by omega)]
        · rw [decide_eq_false e, decide_eq_false (by omega)]
      · refine ER.is (er_andV (a := false) (b := true) (ER.is (er_eqI (ed_lenL (er_own rfl o2 (Ex.refl _))) er_int) (decide_eq_false (by rw [hl]; omega))) (fun z => by cases z)) ?_
        rw [hchg, ← chg_not ox oy h2]
        rfl
    · rw [Rep.bool r3]
      exact q H3 (e02.trans e3)
end
set_option Elab.async false
set_option linter.all false
set_option maxRecDepth 100000
set_option maxHeartbeats 400000
set_option autoImplicit false
open PySem L2 Z
open Evl (Ex)
def nexts (n : Nat) (fs : List (Tp Int)) (x : List Int) : List (Tp Int) := srtK (codeT 64) (((List.range (n - 1)).map fun k => (show Tp Int from exch x k)).filter fun t => isOrd n fs t)
theorem nexts_rows {n : Nat} {fs : List (Tp Int)} {x : List Int} (hx : IsOrd n x) (hn : n ≤ 64) : Rows (max n 1) 64 (((List.range (n - 1)).map fun k => (show Tp Int from exch x k)).filter fun t => isOrd n fs t) := fun t ht => by
  obtain ⟨h1, h2⟩ := List.mem_filter.mp ht
  obtain ⟨k, hk, _⟩ := List.mem_map.mp h1
  have hk := List.mem_range.mp hk
  have o := isOrd_of h2
  refine ⟨?_, fun m hm => ?_⟩
  · rw [show List.length t = n from o.len]
    omega
  · have := o.bd hm
    omega
section
variable {P : Program} {w : World} {K : PySem.W.Frag} {mg : Str → Option Value} {base : Heap} {a : Ad}
def spNext (K : PySem.W.Frag) (C : Addr) : Sp := fun vs H Q _ => ∃ (r l : Addr) (n : Nat) (fs : List (Tp Int)) (v : V) (x : List Int), vs = [.ref r, v] ∧ OrdAt K C H r l n fs ∧ Good n fs ∧ fs.length ≤ 50000 ∧ n ≤ 60 ∧ Rep K H v (show Tp Int from x) ∧ IsOrd n x ∧ ∀ p H', H p = none → Ex H H' → Z.Own K H' p (nexts n fs x) → Q (.ref p) H'
theorem ok_Orders_next_answers (T : Txt P K mg a) : FnOk P w K mg base CX0 3 a.f_Orders_next_answers a.d_Orders_next_answers ["self", "setting"] (spNext K a.C_Orders) := by
  refine T.F_Orders_next_answers.ok sc_Orders_next_answers (fun vs H Q E (h : spNext K a.C_Orders vs H Q E) => by obtain ⟨r, l, n, fs, v, x, rfl, _⟩ := h; rfl) (fun cdv A outer s H vs Q E hr h => ?_)
  obtain ⟨r, l, n, fs, v, x, rfl, at_, gf, hz, hn, rx, ox, q⟩ := h
  have hd : 1 ≤ max n 1 := by omega
  refine ⟨_, (pss_cons (ps_setLc (i := 2) (own := [("spot", 3)]) rfl sc_Orders_next_answers.nd rfl rfl (sw_true rfl rfl rfl (by decide +kernel)) (pi_range1 (by rfl) T.z_range (pa_cons (pe_op op_sub (k_pe_fld (K := K) rfl (pe_fld (pv 0) (by rfl))) pe_int) pa_nil)) (blkOk_by (own := [("spot", 3)]) (N := N_Orders_next_answers) (sc := defScope s_Orders_next_answers) (by decide +kernel)) (fun _ _ _ _ _ => (pg_name (i := 3) sc_Orders_next_answers.nd rfl (Or.inl rfl))) (fun _ _ _ _ _ => pts_nil) (fun _ _ _ _ _ => (pe_call (ok_exchanged T) (hr.mono (by decide)) (by rfl) T.m_exchanged T.F_exchanged.kp T.b_exchanged .nil pass0 (pa_cons (pv 1) (pa_cons (pv 3) pa_nil)))))
  (pss_one (ps_ret (pe_callB (k_cr_sortT (K := K) (d := max n 1) (B := 64) rfl hd) (by rfl) T.z_sorted (by decide +kernel) (pa_cons (pe_lc (own := [("other", 4)]) rfl sc_Orders_next_answers.nd (k_pi_list (K := K) rfl (pv 2)) (blkOk_by (own := [("other", 4)]) (N := N_Orders_next_answers) (sc := defScope s_Orders_next_answers) (by decide +kernel)) (fun _ _ _ _ _ => (pg_name (i := 4) sc_Orders_next_answers.nd rfl (Or.inl rfl))) (fun _ _ _ _ _ => (pts_one (pt_val (pe_meth (pv 0) T.cl_Orders T.me_Orders_is_answer (ok_Orders_is_answer T) (hr.mono (by decide)) T.b_Orders_is_answer .nil pass0 (pa_cons (pv 4) pa_nil))))) (fun _ _ _ _ _ => (pv 4))) pa_nil))))), ?_⟩
  have hl := ox.len
  have hc : ∀ {G}, Ex H G → ER K (tFld K (tVar 0) "count") (L2.start N_Orders_next_answers [.ref r, v]) G (n : Int) := fun e => (OrdAt.fld T (ev_var rfl) at_ e).1
  refine q_setL (K := K) (xs := (List.range (n - 1)).map fun k => (show Tp Int from exch x k)) (EL.is (el_rmapN (n := (n : Int) - 1) (f := fun k => (show Tp Int from exch x k)) (er_sub (hc (Ex.refl _)) er_int) (by omega) (by omega) fun k H1 hk e1 => ?_) ?_) fun p H1 hp e1 o1 => ?_
  · exact er_c2 (x := (show Tp Int from x)) (y := (k : Int)) (er_var rfl rx e1) (er_vint rfl) ⟨by omega, by show (k : Int) + 1 < (x.length : Int); omega, by show x.length ≤ 50000; omega⟩
  · rw [show ((n : Int) - 1).toNat = n - 1 by omega]
  have hmap : ((((List.range (n - 1)).map fun k => (show Tp Int from exch x k)).filter fun t => isOrd n fs t).map fun t : Tp Int => t) = (((List.range (n - 1)).map fun k => (show Tp Int from exch x k)).filter fun t => isOrd n fs t) := List.map_id' _
  have hlen : ((List.range (n - 1)).map fun k => (show Tp Int from exch x k)).length = n - 1 := by rw [List.length_map, List.length_range]
  refine s_retL (K := K) (xs := nexts n fs x) (el_sortU (EL.er (EL.is (el_filter (xs := (List.range (n - 1)).map fun k => (show Tp Int from exch x k)) (f := fun t : Tp Int => t) (p := fun t => isOrd n fs t) (er_own rfl o1 (Ex.refl _)) (fun t v' H2 ht e2 rt => ?_) (fun t v' H2 ht _ e2 rt => er_var rfl rt (Ex.refl _)) (by omega)) hmap)) ?_ (nexts_rows ox (by omega))) fun p2 H2 hp2 e2 o2 => q p2 H2 (fresh_back e1 hp2) (e1.trans e2) o2
  · obtain ⟨k, hk, rfl⟩ := List.mem_map.mp ht
    exact et_test (er_isAns (x := exch x k) (ev_var rfl) at_ (e1.trans e2) gf hz (by omega) (er_var rfl rt (Ex.refl _)) (by rw [exch_len]; omega))
  · exact Nat.lt_of_le_of_lt (List.length_filter_le _ _) (by rw [hlen]; omega)
end
set_option Elab.async false
set_option linter.all false
set_option maxRecDepth 100000
set_option maxHeartbeats 400000
set_option autoImplicit false
open PySem L2 Z
open Evl (Ex)
/-- facts between two different things of n -/
def Facts (n : Int) (fs : List (Tp Int)) : Prop := ∀ t : Tp Int, t ∈ fs → List.length t = 2 ∧ badF n (List.getD (α := Int) t 0 0) (List.getD (α := Int) t 1 0) = false
theorem badF_iff {n x y : Int} : badF n x y = false ↔ (0 ≤ x ∧ x < n) ∧ (0 ≤ y ∧ y < n) ∧ x ≠ y := by
  unfold badF
  simp only [Bool.or_eq_false_iff, decide_eq_false_iff_not]
  omega
theorem Facts.good {n : Nat} {fs : List (Tp Int)} (h : Facts n fs) : Good n fs := fun t ht => by
  obtain ⟨h1, h2⟩ := h t ht
  have h2 := badF_iff.mp h2
  refine ⟨h1, fun m hm => ?_⟩
  rw [two_at h1] at hm
  rcases List.mem_cons.mp hm with rfl | hm
  · exact h2.1
  · have : m = List.getD (α := Int) t 1 0 := List.mem_singleton.mp hm
    rw [this]
    exact h2.2.1
theorem Facts.two {n : Int} {fs : List (Tp Int)} (h : Facts n fs) : Two fs := fun t ht => (h t ht).1
theorem rep2_at {x y : Int} : ∀ {n k : Nat}, k < n → (List.replicate n [x, y]).flatten[2 * k]? = some x ∧ (List.replicate n [x, y]).flatten[2 * k + 1]? = some y
  | 0, k, h => absurd h (Nat.not_lt_zero _)
  | n + 1, 0, h => ⟨rfl, rfl⟩
  | n + 1, k + 1, h => by
    have ih := rep2_at (x := x) (y := y) (n := n) (k := k) (by omega)
    rw [List.replicate_succ, List.flatten_cons]
    exact ⟨ih.1, ih.2⟩
theorem rep2_mem {x y z : Int} {n : Nat} (h : z ∈ (List.replicate n [x, y]).flatten) : z = x ∨ z = y := by
  obtain ⟨l, hl, hz⟩ := List.mem_flatten.mp h
  rw [(List.mem_replicate.mp hl).2] at hz
  rcases List.mem_cons.mp hz with h | h
  · exact .inl h
  · exact .inr (List.mem_singleton.mp h)
theorem rep2_len {x y : Int} {n : Nat} : (List.replicate n [x, y]).flatten.length = 2 * n := by
  induction n with
  | zero => rfl
  | succ n ih =>
    rw [List.replicate_succ, List.flatten_cons, List.length_append, ih]
    show 2 + 2 * n = _
    omega
theorem other_ne {n a d : Int} (h0 : 0 ≤ a) (h1 : a < n) (h2 : 0 ≤ d) (h3 : d < n - 1) : (0 ≤ (a + 1 + d) % n ∧ (a + 1 + d) % n < n) ∧ a ≠ (a + 1 + d) % n := by
  refine ⟨⟨Int.emod_nonneg _ (by omega), Int.emod_lt_of_pos _ (by omega)⟩, ?_⟩
  by_cases h : a + 1 + d < n
  · rw [Int.emod_eq_of_lt (by omega) h]
    omega
  · have : (a + 1 + d) % n = a + 1 + d - n := by
      rw [← Int.sub_emod_right, Int.emod_eq_of_lt (by omega) (by omega)]
    rw [this]
    omega
section
variable {P : Program} {w : World} {K : PySem.W.Frag} {mg : Str → Option Value} {base : Heap} {a : Ad}
def spBlocked : Sp := fun vs H Q _ => ∃ a b c d : V, vs = [a, b, c, d] ∧ ∀ H', Ex H H' → Q (.bl false) H'
theorem ok_Orders_blocked (T : Txt P K mg a) : FnOk P w K mg base CX0 1 a.f_Orders_blocked a.d_Orders_blocked ["self", "setting", "parts", "part"] spBlocked := by
  refine T.F_Orders_blocked.ok sc_Orders_blocked (fun vs H Q E (h : spBlocked vs H Q E) => by obtain ⟨a, b, c, d, rfl, _⟩ := h; rfl) (fun cdv A outer s H vs Q E hr h => ⟨_, (pss_one (ps_ret pe_bl)), ?_⟩)
  obtain ⟨a, b, c, d, rfl, q⟩ := h
  refine s_ret (K := K) (x := false) er_bl fun w H2 e2 r2 => ?_
  rw [Rep.bool r2]
  exact q H2 e2
/-- drawn facts -/
def spFacts (K : PySem.W.Frag) : Sp := fun vs H Q _ => ∃ (c : Int) (m n : Nat) (v : V) (x : List Int) (b : Bool), vs = [.int c, .int m, v, .bl b] ∧ Rep K H v (show Tp Int from x) ∧ IsOrd n x ∧ n ≤ 100 ∧ m ≤ 100 ∧
  ∀ p fs H', H p = none → Ex H H' → Z.Own K H' p fs → Facts n fs → fs.length ≤ m → (n < 2 → fs = []) → Q (.ref p) H'
theorem ok_law_facts (T : Txt P K mg a) : FnOk P w K mg base CX0 2 a.f_law_facts a.d_law_facts ["cell", "many", "order", "agree"] (spFacts K) := by
  refine T.F_law_facts.ok sc_law_facts (fun vs H Q E (h : spFacts K vs H Q E) => by obtain ⟨c, m, n, v, x, b, rfl, _⟩ := h; rfl) (fun cdv A outer s H vs Q E hr h => ⟨_, (pss_cons (ps_set (i := 4) sc_law_facts.nd rfl (Or.inl rfl) (pe_callB (k_call_len_seq (K := K) rfl) (by rfl) T.z_len (by decide +kernel) (pa_cons (pv 2) pa_nil)))
  (pss_cons (ps_if (pt_cmpR op_lt (pv 4) pe_int (nomark _))
  (pss_one (ps_ret (pe_lst pa_nil)))
  pss_nil)
  (pss_cons (ps_set (i := 5) sc_law_facts.nd rfl (Or.inl rfl) (pe_call (ok_law_draw T) (hr.mono (by decide)) (by rfl) T.m__law_draw T.F_law_draw.kp T.b_law_draw .nil pass0 (pa_cons (pv 0) (pa_cons (pe_op op_rep (pe_lst (pa_cons (pv 4) (pa_cons (pe_op op_sub (pv 4) pe_int) pa_nil))) (pv 1)) pa_nil))))
  (pss_cons (ps_set (i := 6) sc_law_facts.nd rfl (Or.inl rfl) (pe_call (ok_law_spots T) (hr.mono (by decide)) (by rfl) T.m__law_spots T.F_law_spots.kp T.b_law_spots .nil pass0 (pa_cons (pv 2) pa_nil)))
  (pss_cons (ps_set (i := 7) sc_law_facts.nd rfl (Or.inl rfl) (pe_lst pa_nil))
  (pss_cons (ps_for PassesOwn.never rfl (pi_range1 (by rfl) T.z_range (pa_cons (pv 1) pa_nil)) (pg_name (i := 8) sc_law_facts.nd rfl (Or.inl rfl))
  (pss_cons (ps_set (i := 9) sc_law_facts.nd rfl (Or.inl rfl) (pe_ix (k_ix_list (K := K) rfl) (pv 5) (pe_op op_mul pe_int (pv 8)) (fun _ _ => rfl)))
  (pss_cons (ps_set (i := 10) sc_law_facts.nd rfl (Or.inl rfl) (pe_op op_mod (pe_op op_add (pe_op op_add (pv 9) pe_int) (pe_ix (k_ix_list (K := K) rfl) (pv 5) (pe_op op_add (pe_op op_mul pe_int (pv 8)) pe_int) (fun _ _ => rfl))) (pv 4)))
  (pss_one (ps_if (PW.pt (pw_and (pt_val (pv 3)) (pw_and1 (pt_cmpR op_gt (pe_ix (k_ix_list (K := K) rfl) (pv 6) (pv 9) (fun _ _ => rfl)) (pe_ix (k_ix_list (K := K) rfl) (pv 6) (pv 10) (fun _ _ => rfl)) (nomark _)))))
  (pss_one (ps_expr (k_pe_bm (K := K) rfl (pe_bm PySem.F.plainAttrs_list PySem.F.slot_list_append PySem.F.type_list_append mt_append (pv 7) (pa_cons (pe_tup (pa_cons (pv 10) (pa_cons (pv 9) pa_nil))) pa_nil)))))
  (pss_one (ps_expr (k_pe_bm (K := K) rfl (pe_bm PySem.F.plainAttrs_list PySem.F.slot_list_append PySem.F.type_list_append mt_append (pv 7) (pa_cons (pe_tup (pa_cons (pv 9) (pa_cons (pv 10) pa_nil))) pa_nil))))))))))
  (pss_one (ps_ret (pv 7))))))))), ?_⟩)
  obtain ⟨c, m, n, v, x, b, rfl, rx, ox, hn, hm, q⟩ := h
  have hl : List.length (α := Int) x = n := ox.len
  refine q_setI (K := K) (x := (n : Int)) (ER.is (ed_lenT (er_var (x := (show Tp Int from x)) rfl rx (Ex.refl _))) (by rw [hl])) fun H1 e1 => ?_
  refine q_if (K := K) (b := decide ((n : Int) < 2)) (by walk_at "ev") (fun hb H2 e2 => ?_) (fun hb H2 e2 => ?_)
  · exact s_retL (K := K) (α := Tp Int) (xs := []) (el_lst ea_nil) fun p H3 hp e3 o3 => q p [] H3 (fresh_back (e1.trans e2) hp) (e1.trans (e2.trans e3)) o3 (fun t ht => by cases ht) (Nat.zero_le _) fun _ => rfl
  · have h2 : 2 ≤ n := by
      have := of_decide_eq_false hb
      omega
    have e02 := e1.trans e2
    obtain ⟨bs, hbs⟩ : ∃ bs : List Int, bs = (List.replicate m [(n : Int), (n : Int) - 1]).flatten := ⟨_, rfl⟩
    refine q_setL (K := K) (xs := drw c bs) (el_c2 (x := c) (y := bs) (er_vint rfl) (EL.er (EL.is (el_rep (xs := [(n : Int), (n : Int) - 1]) (n := (m : Int)) (el_lst (ea_cons (er_vint rfl) (ea_cons (er_sub (er_vint rfl) er_int) ea_nil))) (er_vint rfl) (by omega) (by omega) (by show 2 * ((m : Int)).toNat ≤ 100000; omega)) (by rw [Int.toNat_natCast, hbs]))) ⟨fun b hm => ?_, ?_⟩) fun pd H3 hpd e3 od => ?_
    · rw [hbs] at hm
      rcases rep2_mem hm with h | h <;> omega
    · rw [hbs, rep2_len]
      omega
    refine q_setL (K := K) (xs := spots x) (el_c1 (x := (show Tp Int from x)) (er_var rfl rx (e02.trans e3)) ⟨by show x.length ≤ 50000; omega, fun t ht => by
      have := ox.bd ht
      show 0 ≤ t ∧ t < (x.length : Int)
      omega⟩) fun ps H4 hps e4 os => ?_
    refine q_setL (K := K) (α := Tp Int) (xs := []) (el_lst ea_nil) fun pf H5 hpf e5 of => ?_
    have od4 := od.mono e4
    have sl : (spots x).length = n := (spots_len _).trans hl
    refine q_rng (K := K) (n := (m : Int)) (er_vint rfl) (by omega) (by omega) fun H6 e6 => ⟨H4, fun i σ' H' => ∃ o1 o2 o3 fs, σ' = [some (.int c), some (.int m), some v, some (.bl b), some (.int n), some (.ref pd), some (.ref ps), some (.ref pf), o1, o2, o3] ∧ Z.Own K H' pf fs ∧ Facts n fs ∧ fs.length = i, e5.trans e6, ⟨_, _, _, [], rfl, of.mono e6, (fun t ht => by cases ht), rfl⟩, ?_, ?_⟩
    · rintro i σ' H7 hi e7 ⟨o1, o2, o3, fs, rfl, o, hf, hfl⟩
      have hi' : i < m := by omega
      obtain ⟨x1, a1, l1, u1⟩ := draw_at (c := c) (bs := bs) (i := 2 * i) (b := (n : Int)) (by rw [hbs]; exact (rep2_at hi').1) (by omega)
      obtain ⟨x2, a2, l2, u2⟩ := draw_at (c := c) (bs := bs) (i := 2 * i + 1) (b := (n : Int) - 1) (by rw [hbs]; exact (rep2_at hi').2) (by omega)
      have a1 : atI (drw c bs) (2 * (i : Int)) = some x1 := by
        rw [← a1]
        congr 1
      have a2 : atI (drw c bs) (2 * (i : Int) + 1) = some x2 := by
        rw [← a2]
        congr 1
      obtain ⟨⟨l3, u3⟩, ne3⟩ := other_ne l1 u1 l2 u2
      refine q_setI (K := K) (x := x1) (er_ixL (er_own rfl od4 e7) (er_mul er_int (er_vint rfl) (by walk_at "side")) a1) fun H8 e8 => ?_
      refine q_setI (K := K) (x := (x1 + 1 + x2) % (n : Int)) (er_mod (er_add (er_add (er_vint rfl) er_int) (er_ixL (er_own rfl od4 (e7.trans e8)) (er_add (er_mul er_int (er_vint rfl) (by walk_at "side")) er_int) a2)) (er_vint rfl) (by omega)) fun H9 e9 => ?_
      have e79 := e7.trans (e8.trans e9)
      obtain ⟨y, hy⟩ : ∃ y, y = (x1 + 1 + x2) % (n : Int) := ⟨_, rfl⟩
      rw [← hy] at l3 u3 ne3
      rw [← hy]
      have c1 : atI (spots x) x1 = some ((spots x).getD x1.toNat 0) := by
        obtain ⟨k, rfl⟩ := Int.eq_ofNat_of_zero_le l1
        exact atI_D (by omega)
      have c2 : atI (spots x) y = some ((spots x).getD y.toNat 0) := by
        obtain ⟨k, hk⟩ := Int.eq_ofNat_of_zero_le l3
        rw [hk]
        exact atI_D (by omega)
      refine s_if (K := K) (b := b && decide ((spots x).getD y.toNat 0 < (spots x).getD x1.toNat 0)) (et_andU (et_B (er_vbl rfl)) (et_test (er_gt (er_ixL (er_own rfl os e79) (er_vint rfl) c1) (er_ixL (er_own rfl os e79) (er_vint rfl) c2)))) (fun hb H10 e10 => ?_) (fun hb H10 e10 => ?_)
      · refine s_app (α := Tp Int) (l := 7) rfl (o.mono (e8.trans (e9.trans e10))) (x := (show Tp Int from [y, x1])) (er_tup (ea_cons (er_vint rfl) (ea_cons (er_vint rfl) ea_nil))) (by omega) fun H11 k11 _ o11 => ⟨k11 H4 (e79.trans e10) hpf, _, _, _, _, rfl, o11, fun t ht => ?_, by rw [List.length_append, hfl]; rfl⟩
        rcases List.mem_append.mp ht with ht | ht
        · exact hf t ht
        · rw [List.mem_singleton.mp ht]
          exact ⟨rfl, badF_iff.mpr ⟨⟨l3, u3⟩, ⟨l1, u1⟩, Ne.symm ne3⟩⟩
      · refine s_app (α := Tp Int) (l := 7) rfl (o.mono (e8.trans (e9.trans e10))) (x := (show Tp Int from [x1, y])) (er_tup (ea_cons (er_vint rfl) (ea_cons (er_vint rfl) ea_nil))) (by omega) fun H11 k11 _ o11 => ⟨k11 H4 (e79.trans e10) hpf, _, _, _, _, rfl, o11, fun t ht => ?_, by rw [List.length_append, hfl]; rfl⟩
        rcases List.mem_append.mp ht with ht | ht
        · exact hf t ht
        · rw [List.mem_singleton.mp ht]
          exact ⟨rfl, badF_iff.mpr ⟨⟨l1, u1⟩, ⟨l3, u3⟩, ne3⟩⟩
    · rintro σ' H7 e7 ⟨o1, o2, o3, fs, rfl, o, hf, hfl⟩
      rw [Int.toNat_natCast] at hfl
      exact ⟨_, rfl, q pf fs H7 (fresh_back (e02.trans (e3.trans e4)) hpf) (e02.trans (e3.trans (e4.trans e7))) o hf (by omega) fun z => by omega⟩
end
set_option Elab.async false
set_option linter.all false
set_option maxRecDepth 100000
set_option maxHeartbeats 400000
set_option autoImplicit false
open PySem L2 Z
open Evl (Ex)
section
variable {P : Program} {w : World} {K : PySem.W.Frag} {mg : Str → Option Value} {base : Heap} {a : Ad}
theorem bad_true {n x y : Int} (h : ¬ ((0 ≤ x ∧ x < n) ∧ (0 ≤ y ∧ y < n) ∧ x ≠ y)) : badF n x y = true := by
  cases e : badF n x y with
  | true => rfl
  | false => exact absurd (badF_iff.mp e) h
/-- a wrong fact -/
def wrongL (n c k : Int) : List Int := if c = 1 then [k, n] else if c = 2 then [n + k, 0] else if c = 3 then [-1 - k, k] else if c = 4 then [k, -1] else [k, k]
def wrongF (n c k : Int) : Tp Int := wrongL n c k
theorem wrongF_two {n c k : Int} : List.length (wrongF n c k) = 2 := by
  unfold wrongF wrongL
  split
  · rfl
  split
  · rfl
  split
  · rfl
  split <;> rfl
theorem wrongF_bad {n c k : Int} (hn : 0 ≤ n) (hk : 0 ≤ k) : badF n (List.getD (α := Int) (wrongF n c k) 0 0) (List.getD (α := Int) (wrongF n c k) 1 0) = true := by
  unfold wrongF wrongL
  split
  · exact bad_true (x := k) (y := n) (by omega)
  split
  · exact bad_true (x := n + k) (y := 0) (by omega)
  split
  · exact bad_true (x := -1 - k) (y := k) (by omega)
  split
  · exact bad_true (x := k) (y := -1) (by omega)
  · exact bad_true (x := k) (y := k) (by omega)
def spWrong (K : PySem.W.Frag) : Sp := sp3 K (fun (_ _ _ : Int) => True) wrongF
theorem ok_law_wrong_fact (T : Txt P K mg a) : FnOk P w K mg base CX0 1 a.f_law_wrong_fact a.d_law_wrong_fact ["count", "choice", "k"] (spWrong K) := by
  refine T.F_law_wrong_fact.ok sc_law_wrong_fact len3 (fun cdv A outer s H vs Q E hr h => ⟨_, (pss_cons (ps_if (pt_cmpR op_eq (pv 1) pe_int (nomark _))
  (pss_one (ps_ret (pe_tup (pa_cons (pv 2) (pa_cons (pv 0) pa_nil)))))
  pss_nil)
  (pss_cons (ps_if (pt_cmpR op_eq (pv 1) pe_int (nomark _))
  (pss_one (ps_ret (pe_tup (pa_cons (pe_op op_add (pv 0) (pv 2)) (pa_cons pe_int pa_nil)))))
  pss_nil)
  (pss_cons (ps_if (pt_cmpR op_eq (pv 1) pe_int (nomark _))
  (pss_one (ps_ret (pe_tup (pa_cons (pe_op op_sub (pe_un un_neg pe_int) (pv 2)) (pa_cons (pv 2) pa_nil)))))
  pss_nil)
  (pss_cons (ps_if (pt_cmpR op_eq (pv 1) pe_int (nomark _))
  (pss_one (ps_ret (pe_tup (pa_cons (pv 2) (pa_cons (pe_un un_neg pe_int) pa_nil)))))
  pss_nil)
  (pss_one (ps_ret (pe_tup (pa_cons (pv 2) (pa_cons (pv 2) pa_nil))))))))), ?_⟩)
  obtain ⟨v, u, t, n, c, k, rfl, r1, r2, r3, _, q⟩ := h
  obtain rfl := Rep.int r1
  obtain rfl := Rep.int r2
  obtain rfl := Rep.int r3
  have go : ∀ (x y : Int) (te tu : TE) (D : Ends) (σ : L2.St) (H1 : Hp), Ex H H1 → D.rt = Q → ER K te σ H1 x → ER K tu σ H1 y → wrongF n c k = (show Tp Int from [x, y]) → tRet (tTup (tCons te (tCons tu tNil))) D σ H1 := fun x y te tu D σ H1 e1 hd h1 h2 hb =>
    s_ret (K := K) (x := (show Tp Int from [x, y])) (er_tup (ea_cons h1 (ea_cons h2 ea_nil))) fun v H2 e2 r2 => by
      rw [hd]
      exact q v H2 (e1.trans e2) (hb ▸ r2)
  refine q_if (K := K) (b := decide (c = 1)) (by walk_at "ev") (fun h1 H1 e1 => ?_) (fun h1 H1 e1 => ?_)
  · exact go k n _ _ _ _ _ e1 rfl (er_vint rfl) (er_vint rfl) (if_pos (of_decide_eq_true h1))
  have h1 := of_decide_eq_false h1
  refine q_if (K := K) (b := decide (c = 2)) (by walk_at "ev") (fun h2 H2 e2 => ?_) (fun h2 H2 e2 => ?_)
  · exact go (n + k) 0 _ _ _ _ _ (e1.trans e2) rfl (er_add (er_vint rfl) (er_vint rfl)) er_int (by show wrongL n c k = _; unfold wrongL; rw [if_neg h1, if_pos (of_decide_eq_true h2)])
  have h2 := of_decide_eq_false h2
  refine q_if (K := K) (b := decide (c = 3)) (by walk_at "ev") (fun h3 H3 e3 => ?_) (fun h3 H3 e3 => ?_)
  · exact go (-1 - k) k _ _ _ _ _ (e1.trans (e2.trans e3)) rfl (er_sub (er_neg er_int) (er_vint rfl)) (er_vint rfl) (by show wrongL n c k = _; unfold wrongL; rw [if_neg h1, if_neg h2, if_pos (of_decide_eq_true h3)])
  have h3 := of_decide_eq_false h3
  refine q_if (K := K) (b := decide (c = 4)) (by walk_at "ev") (fun h4 H4 e4 => ?_) (fun h4 H4 e4 => ?_)
  · exact go k (-1) _ _ _ _ _ (e1.trans (e2.trans (e3.trans e4))) rfl (er_vint rfl) (er_neg er_int) (by show wrongL n c k = _; unfold wrongL; rw [if_neg h1, if_neg h2, if_neg h3, if_pos (of_decide_eq_true h4)])
  · exact go k k _ _ _ _ _ (e1.trans (e2.trans (e3.trans e4))) rfl (er_vint rfl) (er_vint rfl) (by show wrongL n c k = _; unfold wrongL; rw [if_neg h1, if_neg h2, if_neg h3, if_neg (of_decide_eq_false h4)])
/-- the law's own look at an order -/
def spLIsOrd (K : PySem.W.Frag) : Sp := fun vs H Q _ => ∃ (n : Nat) (v u : V) (x : List Int) (fs : List (Tp Int)), vs = [v, .int n, u] ∧ Rep K H v (show Tp Int from x) ∧ Rep K H u fs ∧ Good n fs ∧ fs.length ≤ 50000 ∧ n ≤ 200 ∧ x.length ≤ 50000 ∧ ∀ H', Ex H H' → Q (.bl (isOrd n fs x)) H'
theorem ok_law_is_order (T : Txt P K mg a) : FnOk P w K mg base CX0 2 a.f_law_is_order a.d_law_is_order ["setting", "count", "facts"] (spLIsOrd K) := by
  refine T.F_law_is_order.ok sc_law_is_order (fun vs H Q E (h : spLIsOrd K vs H Q E) => by obtain ⟨n, v, u, x, fs, rfl, _⟩ := h; rfl) (fun cdv A outer s H vs Q E hr h => ⟨_, (pss_cons (ps_if (pt_cmpR (k_op_neD (K := K) rfl hr.units) (pe_callB (k_cr_sortedI (K := K) rfl) (by rfl) T.z_sorted (by decide +kernel) (pa_cons (pe_callTy (k_call_list_of (K := K) rfl) (by rfl) T.z_list (by decide +kernel) (pa_cons (pv 0) pa_nil)) pa_nil)) (pe_lc (own := [("k", 4)]) rfl sc_law_is_order.nd (pi_range1 (by rfl) T.z_range (pa_cons (pv 1) pa_nil)) (blkOk_by (own := [("k", 4)]) (N := N_law_is_order) (sc := defScope s_law_is_order) (by decide +kernel)) (fun _ _ _ _ _ => (pg_name (i := 4) sc_law_is_order.nd rfl (Or.inl rfl))) (fun _ _ _ _ _ => pts_nil) (fun _ _ _ _ _ => (pv 4))) (nomark _))
  (pss_one (ps_ret pe_bl))
  pss_nil)
  (pss_cons (ps_set (i := 3) sc_law_is_order.nd rfl (Or.inr rfl) (pe_call (ok_law_spots T) (hr.mono (by decide)) (by rfl) T.m__law_spots T.F_law_spots.kp T.b_law_spots .nil pass0 (pa_cons (pv 0) pa_nil)))
  (pss_one (ps_ret (pe_callB (k_cr_all (K := K) rfl rfl) (by rfl) T.z_all (by decide +kernel) (pa_cons (pe_lc (own := [("fact", 5)]) rfl sc_law_is_order.nd (k_pi_list (K := K) rfl (pv 2)) (blkOk_by (own := [("fact", 5)]) (N := N_law_is_order) (sc := defScope s_law_is_order) (by decide +kernel)) (fun _ _ _ _ _ => (pg_name (i := 5) sc_law_is_order.nd rfl (Or.inl rfl))) (fun _ _ _ _ _ => pts_nil) (fun _ _ _ _ _ => (pe_cmpR op_lt (pe_ix (k_ix_list (K := K) rfl) (pv 3) (pe_ix (k_ix_tup (K := K) rfl) (pv 5) pe_int (fun _ _ => rfl)) (fun _ _ => rfl)) (pe_ix (k_ix_list (K := K) rfl) (pv 3) (pe_ix (k_ix_tup (K := K) rfl) (pv 5) pe_int (fun _ _ => rfl)) (fun _ _ => rfl)) (nomark _)))) pa_nil)))))), ?_⟩)
  obtain ⟨n, v, u, x, fs, rfl, rx, ru, gf, hz, hn, hx, q⟩ := h
  have rng_e : ((List.range ((n : Int)).toNat).map fun (k : Nat) => (k : Int)) = rng n := rfl
  refine q_if (K := K) (b := !decide (srtK (fun x : Int => x) x = rng n)) (et_test (er_neD (α := List Int) (EL.er (el_sortI (xs := x) (EL.er (el_listT (xs := (show Tp Int from x)) (er_var rfl rx (Ex.refl _)))))) (EL.er (EL.is (el_rmap (n := (n : Int)) (f := fun (k : Nat) => (k : Int)) (er_vint rfl) (by omega) (by omega) (fun k H' hk e => er_vint rfl)) rng_e)))) (fun hb H1 e1 => ?_) (fun hb H1 e1 => ?_)
  · have hno : ¬ IsOrd n x := of_decide_eq_false (Bool.not_eq_true' _ ▸ hb)
    refine s_ret (K := K) (x := false) er_bl fun w H2 e2 r2 => ?_
    rw [Rep.bool r2]
    have : isOrd n fs x = false := by unfold isOrd; simp [hno]
    rw [← this]
    exact q H2 (e1.trans e2)
  · have ho : IsOrd n x := of_decide_eq_true (Bool.not_eq_false' _ ▸ hb)
    have hl : List.length (α := Int) x = n := ho.len
    refine q_setL (K := K) (xs := spots x) (el_c1 (x := (show Tp Int from x)) (er_var rfl rx e1) ⟨hx, fun t ht => by
      have := ho.bd ht
      rw [hl]
      exact this⟩) fun p H2 hp e2 o2 => ?_
    have e02 := e1.trans e2
    refine s_ret (K := K) (x := isOrd n fs x) (ER.is (er_all (EL.er (el_map (f := kept x) (er_var (x := fs) rfl ru e02) (fun t v' H3 ht e3 rt => ?_) (by omega)))) ?_) fun w H3 e3 r3 => ?_
    · obtain ⟨b1, b2, b3, b4⟩ := gf.at ht
      have sl : (spots x).length = n := (spots_len _).trans hl
      have c1 : atI (spots x) (List.getD (α := Int) t 0 0) = some ((spots x).getD (List.getD (α := Int) t 0 0).toNat 0) := by
        obtain ⟨k, hk⟩ := Int.eq_ofNat_of_zero_le b1
        rw [hk]
        exact atI_D (by omega)
      have c2 : atI (spots x) (List.getD (α := Int) t 1 0) = some ((spots x).getD (List.getD (α := Int) t 1 0).toNat 0) := by
        obtain ⟨k, hk⟩ := Int.eq_ofNat_of_zero_le b3
        rw [hk]
        exact atI_D (by omega)
      have tl := two_at (gf t ht).1
      have i0 : atI (show List Int from t) 0 = some (List.getD (α := Int) t 0 0) := by rw [tl]; rfl
      have i1 : atI (show List Int from t) 1 = some (List.getD (α := Int) t 1 0) := by rw [tl]; rfl
      exact er_lt (er_ixL (er_own rfl o2 e3) (er_ixT (xs := t) (er_var rfl rt (Ex.refl _)) er_int i0) c1) (er_ixL (er_own rfl o2 e3) (er_ixT (xs := t) (er_var rfl rt (Ex.refl _)) er_int i1) c2)
    · unfold isOrd
      rw [decide_eq_true ho, Bool.true_and, List.all_map]
      rfl
    · rw [Rep.bool r3]
      exact q H3 (e02.trans e3)
theorem er_lIsOrd {E : XK} {H : Hp} {te tn tf : TE} {σ : L2.St} {n : Nat} {x : List Int} {fs : List (Tp Int)} (h : ER K te σ H (show Tp Int from x)) (hn : ER K tn σ H (n : Int)) (hf : ER K tf σ H fs) (gf : Good n fs) (hz : fs.length ≤ 50000) (h2 : n ≤ 200) (hx : x.length ≤ 50000) :
    ER K (tCall (spLIsOrd K) [] E (tCons te (tCons tn (tCons tf tNil)))) σ H (isOrd n fs x) := fun H1 e1 Q q =>
  h H1 e1 _ fun v H2 e2 rv => hn.evI H2 (e1.trans e2) _ fun H3 e3 => hf H3 (e1.trans (e2.trans e3)) _ fun u H4 e4 ru => ⟨n, v, u, x, fs, rfl, rv.mono (e3.trans e4), ru, gf, hz, h2, hx, fun H5 e5 => q _ H5 (e2.trans (e3.trans (e4.trans e5))) (rep_bool _)⟩
def spLChg (K : PySem.W.Frag) : Sp := fun vs H Q _ => ∃ (n : Nat) (v v' u : V) (x y : List Int) (fs : List (Tp Int)), vs = [v, v', .int n, u] ∧ Rep K H v (show Tp Int from x) ∧ Rep K H v' (show Tp Int from y) ∧ Rep K H u fs ∧ Good n fs ∧ fs.length ≤ 50000 ∧ n ≤ 200 ∧ x.length ≤ 50000 ∧ y.length ≤ 50000 ∧ ∀ H', Ex H H' → Q (.bl (isChg n fs x y)) H'
theorem ok_law_is_change (T : Txt P K mg a) : FnOk P w K mg base CX0 3 a.f_law_is_change a.d_law_is_change ["first", "second", "count", "facts"] (spLChg K) := by
  refine T.F_law_is_change.ok sc_law_is_change (fun vs H Q E (h : spLChg K vs H Q E) => by obtain ⟨n, v, v', u, x, y, fs, rfl, _⟩ := h; rfl) (fun cdv A outer s H vs Q E hr h => ⟨_, (pss_cons (ps_if (PW.pt (pw_or (pt_not (pt_val (pe_call (ok_law_is_order T) (hr.mono (by decide)) (by rfl) T.m__law_is_order T.F_law_is_order.kp T.b_law_is_order .nil pass0 (pa_cons (pv 0) (pa_cons (pv 2) (pa_cons (pv 3) pa_nil)))))) (pw_or1 (pt_not (pt_val (pe_call (ok_law_is_order T) (hr.mono (by decide)) (by rfl) T.m__law_is_order T.F_law_is_order.kp T.b_law_is_order .nil pass0 (pa_cons (pv 1) (pa_cons (pv 2) (pa_cons (pv 3) pa_nil)))))))))
  (pss_one (ps_ret pe_bl))
  pss_nil)
  (pss_one (ps_ret (pe_callB (k_cr_any (K := K) rfl rfl) (by rfl) T.z_any (by decide +kernel) (pa_cons (pe_lc (own := [("k", 4)]) rfl sc_law_is_change.nd (pi_range1 (by rfl) T.z_range (pa_cons (pe_op op_sub (pv 2) pe_int) pa_nil)) (blkOk_by (own := [("k", 4)]) (N := N_law_is_change) (sc := defScope s_law_is_change) (by decide +kernel)) (fun _ _ _ _ _ => (pg_name (i := 4) sc_law_is_change.nd rfl (Or.inl rfl))) (fun _ _ _ _ _ => pts_nil) (fun _ _ _ _ _ => (pe_cmpR (k_op_eqD (K := K) rfl hr.units) (pe_call (ok_law_swapped T) (hr.mono (by decide)) (by rfl) T.m__law_swapped T.F_law_swapped.kp T.b_law_swapped .nil pass0 (pa_cons (pv 0) (pa_cons (pv 4) (pa_cons (pe_op op_add (pv 4) pe_int) pa_nil)))) (pv 1) (nomark _)))) pa_nil))))), ?_⟩)
  obtain ⟨n, v, v', u, x, y, fs, rfl, rx, ry, ru, gf, hz, hn, hx, hy, q⟩ := h
  refine q_if (K := K) (b := !isOrd n fs x || !isOrd n fs y) (et_orU (et_not (et_B (er_lIsOrd (er_var rfl rx (Ex.refl _)) (er_vint rfl) (er_var rfl ru (Ex.refl _)) gf hz hn hx))) (et_not (et_B (er_lIsOrd (er_var rfl ry (Ex.refl _)) (er_vint rfl) (er_var rfl ru (Ex.refl _)) gf hz hn hy)))) (fun hb H1 e1 => ?_) (fun hb H1 e1 => ?_)
  · refine s_ret (K := K) (x := false) er_bl fun w H2 e2 r2 => ?_
    rw [Rep.bool r2]
    have : isChg n fs x y = false := by
      unfold isChg
      rw [Bool.and_eq_false_iff]
      left
      rw [← Bool.not_and] at hb
      exact Bool.not_eq_true' _ ▸ hb
    rw [← this]
    exact q H2 (e1.trans e2)
  · have hb : isOrd n fs x = true ∧ isOrd n fs y = true := by
      rw [← Bool.not_and] at hb
      have : (isOrd n fs x && isOrd n fs y) = true := Bool.not_eq_false' _ ▸ hb
      exact Bool.and_eq_true_iff.mp this
    have ox := isOrd_of hb.1
    have hxl := ox.len
    have hchg : isChg n fs x y = (List.range (n - 1)).any fun k => decide (exch x k = y) := by
      unfold isChg
      rw [hb.1, hb.2]
      rfl
    refine s_ret (K := K) (x := isChg n fs x y) (ER.is (er_any (EL.er (el_rmapN (n := (n : Int) - 1) (f := fun k => decide (exch x k = y)) (er_sub (er_vint rfl) er_int) (by omega) (by omega) fun k H2 hk e2 => ?_))) ?_) fun w H3 e3 r3 => ?_
    · have hk1 : ((k : Int)).toNat = k := Int.toNat_natCast k
      have hk2 : ((k : Int) + 1).toNat = k + 1 := by omega
      exact ER.is (er_eqD (α := Tp Int) (er_c3 (x := (show Tp Int from x)) (y := (k : Int)) (z := (k : Int) + 1) (er_var rfl rx (e1.trans e2)) (er_vint rfl) (er_add (er_vint rfl) er_int) ⟨by omega, by show (k : Int) < (x.length : Int); omega, by omega, by show (k : Int) + 1 < (x.length : Int); omega⟩) (er_var (x := (show Tp Int from y)) rfl ry (e1.trans e2))) (by
        show decide (swapD x (k : Int).toNat ((k : Int) + 1).toNat = y) = decide (exch x k = y)
        rw [hk1, hk2]
        rfl)
    · rw [hchg, show ((n : Int) - 1).toNat = n - 1 by omega, List.any_map]
      rfl
    · rw [Rep.bool r3]
      exact q H3 (e1.trans e3)
theorem er_lChg {E : XK} {H : Hp} {te tu tn tf : TE} {σ : L2.St} {n : Nat} {x y : List Int} {fs : List (Tp Int)} (h : ER K te σ H (show Tp Int from x)) (h' : ER K tu σ H (show Tp Int from y)) (hn : ER K tn σ H (n : Int)) (hf : ER K tf σ H fs) (gf : Good n fs) (hz : fs.length ≤ 50000) (h2 : n ≤ 200) (hx : x.length ≤ 50000) (hy : y.length ≤ 50000) :
    ER K (tCall (spLChg K) [] E (tCons te (tCons tu (tCons tn (tCons tf tNil))))) σ H (isChg n fs x y) := fun H1 e1 Q q =>
  h H1 e1 _ fun v H2 e2 rv => h' H2 (e1.trans e2) _ fun v' H2' e2' rv' => hn.evI H2' (e1.trans (e2.trans e2')) _ fun H3 e3 => hf H3 (e1.trans (e2.trans (e2'.trans e3))) _ fun u H4 e4 ru => ⟨n, v, v', u, x, y, fs, rfl, rv.mono (e2'.trans (e3.trans e4)), rv'.mono (e3.trans e4), ru, gf, hz, h2, hx, hy, fun H5 e5 => q _ H5 (e2.trans (e2'.trans (e3.trans (e4.trans e5)))) (rep_bool _)⟩
def spLNext (K : PySem.W.Frag) : Sp := fun vs H Q _ => ∃ (n : Nat) (v u : V) (x : List Int) (fs : List (Tp Int)), vs = [v, .int n, u] ∧ Rep K H v (show Tp Int from x) ∧ Rep K H u fs ∧ Good n fs ∧ fs.length ≤ 50000 ∧ n ≤ 60 ∧ IsOrd n x ∧ ∀ p H', H p = none → Ex H H' → Z.Own K H' p (nexts n fs x) → Q (.ref p) H'
theorem ok_law_next (T : Txt P K mg a) : FnOk P w K mg base CX0 3 a.f_law_next a.d_law_next ["order", "count", "facts"] (spLNext K) := by
  refine T.F_law_next.ok sc_law_next (fun vs H Q E (h : spLNext K vs H Q E) => by obtain ⟨n, v, u, x, fs, rfl, _⟩ := h; rfl) (fun cdv A outer s H vs Q E hr h => ?_)
  obtain ⟨n, v, u, x, fs, rfl, rx, ru, gf, hz, hn, ox, q⟩ := h
  have hd : 1 ≤ max n 1 := by omega
  refine ⟨_, (pss_cons (ps_setLc (i := 3) (own := [("k", 4)]) rfl sc_law_next.nd rfl rfl (sw_true rfl rfl rfl (by decide +kernel)) (pi_range1 (by rfl) T.z_range (pa_cons (pe_op op_sub (pv 1) pe_int) pa_nil)) (blkOk_by (own := [("k", 4)]) (N := N_law_next) (sc := defScope s_law_next) (by decide +kernel)) (fun _ _ _ _ _ => (pg_name (i := 4) sc_law_next.nd rfl (Or.inl rfl))) (fun _ _ _ _ _ => pts_nil) (fun _ _ _ _ _ => (pe_call (ok_law_swapped T) (hr.mono (by decide)) (by rfl) T.m__law_swapped T.F_law_swapped.kp T.b_law_swapped .nil pass0 (pa_cons (pv 0) (pa_cons (pv 4) (pa_cons (pe_op op_add (pv 4) pe_int) pa_nil))))))
  (pss_one (ps_ret (pe_callB (k_cr_sortT (K := K) (d := max n 1) (B := 64) rfl hd) (by rfl) T.z_sorted (by decide +kernel) (pa_cons (pe_lc (own := [("other", 5)]) rfl sc_law_next.nd (k_pi_list (K := K) rfl (pv 3)) (blkOk_by (own := [("other", 5)]) (N := N_law_next) (sc := defScope s_law_next) (by decide +kernel)) (fun _ _ _ _ _ => (pg_name (i := 5) sc_law_next.nd rfl (Or.inl rfl))) (fun _ _ _ _ _ => (pts_one (pt_val (pe_call (ok_law_is_order T) (hr.mono (by decide)) (by rfl) T.m__law_is_order T.F_law_is_order.kp T.b_law_is_order .nil pass0 (pa_cons (pv 5) (pa_cons (pv 1) (pa_cons (pv 2) pa_nil))))))) (fun _ _ _ _ _ => (pv 5))) pa_nil))))), ?_⟩
  have hl := ox.len
  refine q_setL (K := K) (xs := (List.range (n - 1)).map fun k => (show Tp Int from exch x k)) (EL.is (el_rmapN (n := (n : Int) - 1) (f := fun k => (show Tp Int from exch x k)) (er_sub (er_vint rfl) er_int) (by omega) (by omega) fun k H1 hk e1 => ?_) ?_) fun p H1 hp e1 o1 => ?_
  · have hk1 : ((k : Int)).toNat = k := Int.toNat_natCast k
    have hk2 : ((k : Int) + 1).toNat = k + 1 := by omega
    exact ER.is (er_c3 (x := (show Tp Int from x)) (y := (k : Int)) (z := (k : Int) + 1) (er_var rfl rx e1) (er_vint rfl) (er_add (er_vint rfl) er_int) ⟨by omega, by show (k : Int) < (x.length : Int); omega, by omega, by show (k : Int) + 1 < (x.length : Int); omega⟩) (by
      show (show Tp Int from swapD x (k : Int).toNat ((k : Int) + 1).toNat) = _
      rw [hk1, hk2]
      rfl)
  · rw [show ((n : Int) - 1).toNat = n - 1 by omega]
  have hmap : ((((List.range (n - 1)).map fun k => (show Tp Int from exch x k)).filter fun t => isOrd n fs t).map fun t : Tp Int => t) = (((List.range (n - 1)).map fun k => (show Tp Int from exch x k)).filter fun t => isOrd n fs t) := List.map_id' _
  have hlen : ((List.range (n - 1)).map fun k => (show Tp Int from exch x k)).length = n - 1 := by rw [List.length_map, List.length_range]
  refine s_retL (K := K) (xs := nexts n fs x) (el_sortU (EL.er (EL.is (el_filter (xs := (List.range (n - 1)).map fun k => (show Tp Int from exch x k)) (f := fun t : Tp Int => t) (p := fun t => isOrd n fs t) (er_own rfl o1 (Ex.refl _)) (fun t v' H2 ht e2 rt => ?_) (fun t v' H2 ht _ e2 rt => er_var rfl rt (Ex.refl _)) (by omega)) hmap)) ?_ (nexts_rows ox (by omega))) fun p2 H2 hp2 e2 o2 => q p2 H2 (fresh_back e1 hp2) (e1.trans e2) o2
  · obtain ⟨k, hk, rfl⟩ := List.mem_map.mp ht
    exact et_B (er_lIsOrd (x := exch x k) (er_var rfl rt (Ex.refl _)) (er_vint rfl) (er_var rfl ru (e1.trans e2)) gf hz (by omega) (by rw [exch_len]; omega))
  · exact Nat.lt_of_le_of_lt (List.length_filter_le _ _) (by rw [hlen]; omega)
end
set_option Elab.async false
set_option linter.all false
set_option maxRecDepth 100000
set_option maxHeartbeats 400000
set_option autoImplicit false
open PySem L2 Z
open Evl (Ex)
/-- settings, the first one x, none longer than n + 5 -/
def Sets (n m : Nat) (x : List Int) (xs : List (Tp Int)) : Prop := xs[0]? = some (show Tp Int from x) ∧ xs.length ≤ m ∧ ∀ t : Tp Int, t ∈ xs → List.length t ≤ n + 5
theorem Sets.app {n m : Nat} {x : List Int} {xs : List (Tp Int)} {t : Tp Int} (h : Sets n m x xs) (ht : List.length t ≤ n + 5) : Sets n (m + 1) x (xs ++ [t]) := by
  obtain ⟨h1, h2, h3⟩ := h
  refine ⟨?_, by rw [List.length_append]; exact Nat.succ_le_succ h2, fun u hu => ?_⟩
  · rw [List.getElem?_append_left (List.getElem?_eq_some_iff.mp h1).1]
    exact h1
  · rcases List.mem_append.mp hu with hu | hu
    · exact h3 u hu
    · rw [List.mem_singleton.mp hu]
      exact ht
theorem Sets.le {n m m' : Nat} {x : List Int} {xs : List (Tp Int)} (h : Sets n m x xs) (hm : m ≤ m') : Sets n m' x xs := ⟨h.1, Nat.le_trans h.2.1 hm, h.2.2⟩
theorem cutD_le {α : Type} {xs : List α} {lo hi : Option Int} : (cutD xs lo hi).length ≤ xs.length := by
  unfold cutD
  rw [List.length_take, List.length_drop]
  omega
theorem swapD_len (x : List Int) (k j : Nat) : (swapD x k j).length = x.length := by
  unfold swapD
  rw [List.length_set, List.length_set]
theorem app_le {a b : List Int} {n : Nat} (h1 : a.length ≤ n) (h2 : b.length ≤ 3) : List.length (show Tp Int from @List.append Int a b) ≤ n + 3 := by
  show (a ++ b).length ≤ _
  rw [List.length_append]
  omega
section
variable {P : Program} {w : World} {K : PySem.W.Frag} {mg : Str → Option Value} {base : Heap} {a : Ad}
def spSets (K : PySem.W.Frag) : Sp := fun vs H Q _ => ∃ (n : Nat) (v u : V) (x y : List Int) (i : Int), vs = [v, u, .int i] ∧ Rep K H v (show Tp Int from x) ∧ Rep K H u (show Tp Int from y) ∧ x.length = n ∧ y.length = n ∧ n ≤ 60 ∧ 0 ≤ i ∧
  ∀ p xs H', H p = none → Ex H H' → Z.Own K H' p xs → Sets n 200 x xs → Q (.ref p) H'
/-- xs[0:k] + (..) + xs[j:], as it is written -/
theorem er_cat3 {H : Hp} {σ : L2.St} {te : TE} {tl th tl2 th2 : TO} {tm : TA} {x : List Int} {lo hi lo2 hi2 : Option Int} {ms : List Int} {n : Nat} (h : ER K te σ H (show Tp Int from x)) (hx : x.length = n) (hn : n ≤ 60) (h1 : EO K tl σ H lo) (h2 : EO K th σ H hi) (h3 : EA K tm σ H ms) (hm : ms.length ≤ 3) (h4 : EO K tl2 σ H lo2) (h5 : EO K th2 σ H hi2) :
    ER K (tOp (rCatA K) (tOp (rCatA K) (tSl (rSlA K) te tl th) (tTup tm)) (tSl (rSlA K) te tl2 th2)) σ H (show Tp Int from (cutD x lo hi ++ ms) ++ cutD x lo2 hi2) := by
  have c1 := cutD_le (xs := x) (lo := lo) (hi := hi)
  have c2 := cutD_le (xs := x) (lo := lo2) (hi := hi2)
  exact er_catT (xs := (show Tp Int from cutD x lo hi ++ ms)) (er_catT (xs := (show Tp Int from cutD x lo hi)) (ys := (show Tp Int from ms)) (er_slT (xs := (show Tp Int from x)) h h1 h2) (er_tup h3 (by omega)) (by show (cutD x lo hi).length + ms.length ≤ 100000; omega)) (er_slT (xs := (show Tp Int from x)) h h4 h5) (by
    show (cutD x lo hi ++ ms).length + (cutD x lo2 hi2).length ≤ 100000
    rw [List.length_append]
    omega)
theorem ok_law_settings (T : Txt P K mg a) : FnOk P w K mg base CX0 2 a.f_law_settings a.d_law_settings ["order", "second", "at"] (spSets K) := by
  refine T.F_law_settings.ok sc_law_settings (fun vs H Q E (h : spSets K vs H Q E) => by obtain ⟨n, v, u, x, y, i, rfl, _⟩ := h; rfl) (fun cdv A outer s H vs Q E hr h => ⟨_, (pss_cons (ps_set (i := 3) sc_law_settings.nd rfl (Or.inl rfl) (pe_callB (k_call_len_seq (K := K) rfl) (by rfl) T.z_len (by decide +kernel) (pa_cons (pv 0) pa_nil)))
  (pss_cons (ps_set (i := 4) sc_law_settings.nd rfl (Or.inl rfl) (pe_lst (pa_cons (pv 0) (pa_cons (pv 1) (pa_cons (pe_op (k_op_catA (K := K) rfl) (pv 0) (pe_tup (pa_cons (pv 3) pa_nil))) (pa_cons (pe_slice (k_sl_tupA (K := K) rfl) (pv 0) (po_some pe_int) po_none) (pa_cons (pe_op (k_op_catA (K := K) rfl) (pe_slice (k_sl_tupA (K := K) rfl) (pv 0) po_none (po_some (pe_un un_neg pe_int))) (pe_tup (pa_cons (pe_un un_neg pe_int) pa_nil))) (pa_cons (pe_tup pa_nil) pa_nil))))))))
  (pss_cons (ps_for PassesOwn.never rfl (pi_range1 (by rfl) T.z_range (pa_cons (pe_op op_sub (pv 3) pe_int) pa_nil)) (pg_name (i := 5) sc_law_settings.nd rfl (Or.inl rfl))
  (pss_one (ps_expr (k_pe_bm (K := K) rfl (pe_bm PySem.F.plainAttrs_list PySem.F.slot_list_append PySem.F.type_list_append mt_append (pv 4) (pa_cons (pe_call (ok_law_swapped T) (hr.mono (by decide)) (by rfl) T.m__law_swapped T.F_law_swapped.kp T.b_law_swapped .nil pass0 (pa_cons (pv 0) (pa_cons (pv 5) (pa_cons (pe_op op_add (pv 5) pe_int) pa_nil)))) pa_nil))))))
  (pss_cons (ps_if (pt_cmpR op_gt (pv 3) pe_int (nomark _))
  (pss_cons (ps_set (i := 5) sc_law_settings.nd rfl (Or.inl rfl) (pe_op op_mod (pv 2) (pe_op op_sub (pv 3) pe_int)))
  (pss_cons (ps_expr (k_pe_bm (K := K) rfl (pe_bm PySem.F.plainAttrs_list PySem.F.slot_list_append PySem.F.type_list_append mt_append (pv 4) (pa_cons (pe_call (ok_law_swapped T) (hr.mono (by decide)) (by rfl) T.m__law_swapped T.F_law_swapped.kp T.b_law_swapped .nil pass0 (pa_cons (pv 0) (pa_cons (pv 5) (pa_cons (pe_op op_add (pv 5) pe_int) pa_nil)))) pa_nil))))
  (pss_cons (ps_expr (k_pe_bm (K := K) rfl (pe_bm PySem.F.plainAttrs_list PySem.F.slot_list_append PySem.F.type_list_append mt_append (pv 4) (pa_cons (pe_op (k_op_catA (K := K) rfl) (pe_op (k_op_catA (K := K) rfl) (pe_slice (k_sl_tupA (K := K) rfl) (pv 0) po_none (po_some (pv 5))) (pe_tup (pa_cons (pe_ix (k_ix_tup (K := K) rfl) (pv 0) (pe_op op_add (pv 5) pe_int) (fun _ _ => rfl)) pa_nil))) (pe_slice (k_sl_tupA (K := K) rfl) (pv 0) (po_some (pe_op op_add (pv 5) pe_int)) po_none)) pa_nil))))
  (pss_one (ps_expr (k_pe_bm (K := K) rfl (pe_bm PySem.F.plainAttrs_list PySem.F.slot_list_append PySem.F.type_list_append mt_append (pv 4) (pa_cons (pe_op (k_op_catA (K := K) rfl) (pe_op (k_op_catA (K := K) rfl) (pe_slice (k_sl_tupA (K := K) rfl) (pv 0) po_none (po_some (pv 5))) (pe_tup (pa_cons (pe_ix (k_ix_tup (K := K) rfl) (pv 0) (pe_op op_add (pv 5) pe_int) (fun _ _ => rfl)) (pa_cons (pe_ix (k_ix_tup (K := K) rfl) (pv 0) (pe_op op_add (pv 5) pe_int) (fun _ _ => rfl)) (pa_cons (pe_ix (k_ix_tup (K := K) rfl) (pv 0) (pv 5) (fun _ _ => rfl)) pa_nil))))) (pe_slice (k_sl_tupA (K := K) rfl) (pv 0) (po_some (pe_op op_add (pv 5) pe_int)) po_none)) pa_nil))))))))
  pss_nil)
  (pss_cons (ps_if (pt_cmpR op_gt (pv 3) pe_int (nomark _))
  (pss_cons (ps_set (i := 5) sc_law_settings.nd rfl (Or.inl rfl) (pe_op op_mod (pv 2) (pe_op op_sub (pv 3) pe_int)))
  (pss_cons (ps_expr (k_pe_bm (K := K) rfl (pe_bm PySem.F.plainAttrs_list PySem.F.slot_list_append PySem.F.type_list_append mt_append (pv 4) (pa_cons (pe_call (ok_law_swapped T) (hr.mono (by decide)) (by rfl) T.m__law_swapped T.F_law_swapped.kp T.b_law_swapped .nil pass0 (pa_cons (pe_call (ok_law_swapped T) (hr.mono (by decide)) (by rfl) T.m__law_swapped T.F_law_swapped.kp T.b_law_swapped .nil pass0 (pa_cons (pv 0) (pa_cons (pv 5) (pa_cons (pe_op op_add (pv 5) pe_int) pa_nil)))) (pa_cons (pe_op op_add (pv 5) pe_int) (pa_cons (pe_op op_add (pv 5) pe_int) pa_nil)))) pa_nil))))
  (pss_one (ps_expr (k_pe_bm (K := K) rfl (pe_bm PySem.F.plainAttrs_list PySem.F.slot_list_append PySem.F.type_list_append mt_append (pv 4) (pa_cons (pe_call (ok_law_swapped T) (hr.mono (by decide)) (by rfl) T.m__law_swapped T.F_law_swapped.kp T.b_law_swapped .nil pass0 (pa_cons (pv 0) (pa_cons (pv 5) (pa_cons (pe_op op_add (pv 5) pe_int) pa_nil)))) pa_nil)))))))
  pss_nil)
  (pss_cons (ps_if (pt_cmpR op_gt (pv 3) pe_int (nomark _))
  (pss_cons (ps_expr (k_pe_bm (K := K) rfl (pe_bm PySem.F.plainAttrs_list PySem.F.slot_list_append PySem.F.type_list_append mt_append (pv 4) (pa_cons (pe_op (k_op_catA (K := K) rfl) (pv 0) (pe_tup (pa_cons (pe_ix (k_ix_tup (K := K) rfl) (pv 0) (pe_op op_mod (pv 2) (pv 3)) (fun _ _ => rfl)) pa_nil))) pa_nil))))
  (pss_one (ps_expr (k_pe_bm (K := K) rfl (pe_bm PySem.F.plainAttrs_list PySem.F.slot_list_append PySem.F.type_list_append mt_append (pv 4) (pa_cons (pe_op (k_op_catA (K := K) rfl) (pe_slice (k_sl_tupA (K := K) rfl) (pv 0) po_none (po_some (pe_un un_neg pe_int))) (pe_tup (pa_cons (pe_op op_add (pv 3) (pe_op op_mod (pv 2) pe_int)) pa_nil))) pa_nil))))))
  pss_nil)
  (pss_one (ps_ret (pv 4))))))))), ?_⟩)
  obtain ⟨n, v, u, x, y, i, rfl, rx, ry, hx, hy, hn, hi, q⟩ := h
  refine q_setI (K := K) (x := (n : Int)) (ER.is (ed_lenT (er_var (x := (show Tp Int from x)) rfl rx (Ex.refl _))) (by show (x.length : Int) = n; rw [hx])) fun H1 e1 => ?_
  have c1 := cutD_le (xs := x) (lo := some 1) (hi := none)
  have c2 := cutD_le (xs := x) (lo := none) (hi := some (-1))
  refine q_setL (K := K) (α := Tp Int) (xs := [(show Tp Int from x), (show Tp Int from y), (show Tp Int from x ++ [(n : Int)]), (show Tp Int from cutD x (some 1) none), (show Tp Int from cutD x none (some (-1)) ++ [(-1 : Int)]), (show Tp Int from [])])
    (el_lst (ea_cons (er_var rfl rx e1) (ea_cons (er_var rfl ry e1) (ea_cons (er_catT (xs := (show Tp Int from x)) (ys := (show Tp Int from [(n : Int)])) (er_var rfl rx e1) (er_tup (ea_cons (er_vint rfl) ea_nil)) (by show x.length + 1 ≤ _; omega))
      (ea_cons (er_slT (xs := (show Tp Int from x)) (er_var rfl rx e1) (eo_some er_int) eo_none) (ea_cons (er_catT (xs := (show Tp Int from cutD x none (some (-1)))) (ys := (show Tp Int from [(-1 : Int)])) (er_slT (xs := (show Tp Int from x)) (er_var rfl rx e1) eo_none (eo_some (er_neg er_int))) (er_tup (ea_cons (er_neg er_int) ea_nil)) (by show (cutD x none (some (-1))).length + 1 ≤ _; omega))
        (ea_cons (er_tup ea_nil) ea_nil)))))) (by show 6 ≤ 100000; decide)) fun p H2 hp e2 o2 => ?_
  have e02 := e1.trans e2
  have hHp : H p = none := fresh_back e1 hp
  have s0 : Sets n 6 x [(show Tp Int from x), (show Tp Int from y), (show Tp Int from x ++ [(n : Int)]), (show Tp Int from cutD x (some 1) none), (show Tp Int from cutD x none (some (-1)) ++ [(-1 : Int)]), (show Tp Int from [])] := by
    refine ⟨rfl, by show 6 ≤ 6; exact Nat.le_refl _, fun t ht => ?_⟩
    have l1 : (x ++ [(n : Int)]).length ≤ n + 5 := by rw [List.length_append, hx]; show n + 1 ≤ _; omega
    have l2 : (cutD x none (some (-1)) ++ [(-1 : Int)]).length ≤ n + 5 := by rw [List.length_append]; show _ + 1 ≤ _; omega
    rcases List.mem_cons.mp ht with h | ht
    · rw [h]
      show x.length ≤ _
      omega
    rcases List.mem_cons.mp ht with h | ht
    · rw [h]
      show y.length ≤ _
      omega
    rcases List.mem_cons.mp ht with h | ht
    · rw [h]
      exact l1
    rcases List.mem_cons.mp ht with h | ht
    · rw [h]
      show (cutD x (some 1) none).length ≤ _
      omega
    rcases List.mem_cons.mp ht with h | ht
    · rw [h]
      exact l2
    rw [List.mem_singleton.mp ht]
    show 0 ≤ _
    omega
  generalize [(show Tp Int from x), (show Tp Int from y), (show Tp Int from x ++ [(n : Int)]), (show Tp Int from cutD x (some 1) none), (show Tp Int from cutD x none (some (-1)) ++ [(-1 : Int)]), (show Tp Int from [])] = zs at o2 s0
  have swp : ∀ {E : XK} {σ : L2.St} {G : Hp} {te tk tj : TE} {z : List Int} {k j : Int}, ER K te σ G (show Tp Int from z) → ER K tk σ G k → ER K tj σ G j → 0 ≤ k → k < z.length → 0 ≤ j → j < z.length → ER K (tCall (sp3 K (fun (x : Tp Int) (k j : Int) => 0 ≤ k ∧ k < List.length x ∧ 0 ≤ j ∧ j < List.length x) fun x k j => (show Tp Int from swapD x k.toNat j.toNat)) [] E (tCons te (tCons tk (tCons tj tNil)))) σ G (show Tp Int from swapD z k.toNat j.toNat) := fun h1 h2 h3 a b c d => er_c3 h1 h2 h3 ⟨a, b, c, d⟩
  refine q_rng (K := K) (n := (n : Int) - 1) (er_sub (er_vint rfl) er_int) (by omega) (by omega) fun H3 e3 => ⟨H1, fun i' σ' H' => ∃ o xs, σ' = [some v, some u, some (.int i), some (.int n), some (.ref p), o] ∧ Z.Own K H' p xs ∧ Sets n (6 + i') x xs, e2.trans e3, ⟨_, zs, rfl, o2.mono e3, s0⟩, ?_, ?_⟩
  · rintro k σ' H4 hk e4 ⟨o, xs, rfl, o4, st⟩
    refine s_app (α := Tp Int) (l := 4) rfl o4 (x := (show Tp Int from swapD x (k : Int).toNat ((k : Int) + 1).toNat)) (swp (er_var rfl rx (e1.trans e4)) (er_vint rfl) (er_add (er_vint rfl) er_int) (by omega) (by omega) (by omega) (by omega)) (by have := st.2.1; omega) fun H5 k5 _ o5 => ⟨k5 H1 e4 hp, _, _, rfl, o5, st.app ?_⟩
    show (swapD _ _ _).length ≤ _
    rw [swapD_len]
    omega
  rintro σ' H4 e4 ⟨o, xs, rfl, o4, st⟩
  have st : Sets n 70 x xs := st.le (by omega)
  have e04 := e1.trans e4
  refine q_ifJ (K := K) (b := decide (2 < (n : Int))) (J := fun σ' H' => ∃ o xs, σ' = [some v, some u, some (.int i), some (.int n), some (.ref p), o] ∧ Ex H H' ∧ Z.Own K H' p xs ∧ Sets n 73 x xs)
    ?_ (et_test (er_gt (er_vint rfl) er_int)) (fun kk hb H5 e5 => ?_) (fun kk hb H5 e5 => kk _ _ ⟨_, xs, rfl, e04.trans e5, o4.mono e5, st.le (by omega)⟩)
  rotate_left
  · have hb := of_decide_eq_true hb
    have m0 := Int.emod_nonneg i (b := (n : Int) - 2) (by omega)
    have m1 := Int.emod_lt_of_pos i (b := (n : Int) - 2) (by omega)
    refine q_setI (K := K) (x := i % ((n : Int) - 2)) (er_mod (er_vint rfl) (er_sub (er_vint rfl) er_int) (by omega)) fun H6 e6 => ?_
    obtain ⟨k, hk⟩ : ∃ k : Nat, (k : Int) = i % ((n : Int) - 2) := ⟨(i % ((n : Int) - 2)).toNat, by omega⟩
    rw [← hk] at m0 m1 ⊢
    have e06 := e04.trans (e5.trans e6)
    have x0 : atI x (k : Int) = some (x.getD k 0) := atI_D (by omega)
    have x1 : atI x ((k : Int) + 1) = some (x.getD (k + 1) 0) := atI_D (xs := x) (k := k + 1) (by omega)
    have x2 : atI x ((k : Int) + 2) = some (x.getD (k + 2) 0) := atI_D (xs := x) (k := k + 2) (by omega)
    refine q_app (α := Tp Int) (l := 4) rfl (o4.mono (e5.trans e6)) (x := (show Tp Int from swapD x (k : Int).toNat ((k : Int) + 2).toNat)) (swp (er_var rfl rx e06) (er_vint rfl) (er_add (er_vint rfl) er_int) (by omega) (by omega) (by omega) (by omega)) (by have := st.2.1; omega) fun H7 k7 _ o7 => ?_
    have st := st.app (t := (show Tp Int from swapD x (k : Int).toNat ((k : Int) + 2).toNat)) (by show (swapD _ _ _).length ≤ _; rw [swapD_len]; omega)
    have e07 := k7 H e06 hHp
    have d1 := cutD_le (xs := x) (lo := none) (hi := some (k : Int))
    have d2 := cutD_le (xs := x) (lo := some ((k : Int) + 1)) (hi := none)
    have d3 := cutD_le (xs := x) (lo := some ((k : Int) + 3)) (hi := none)
    have f1 : (cutD x none (some (k : Int))).length + (cutD x (some ((k : Int) + 1)) none).length ≤ n := by
      have t2 : cutD x (some ((k : Int) + 1)) none = x.drop (k + 1) := cut_drop (k := k + 1) (by omega)
      rw [cut_take (by omega), t2, List.length_take, List.length_drop]
      omega
    have f2 : (cutD x none (some (k : Int))).length + (cutD x (some ((k : Int) + 3)) none).length ≤ n := by
      have t2 : cutD x (some ((k : Int) + 3)) none = x.drop (k + 3) := cut_drop (k := k + 3) (by omega)
      rw [cut_take (by omega), t2, List.length_take, List.length_drop]
      omega
    refine q_app (α := Tp Int) (l := 4) rfl o7 (x := (show Tp Int from (cutD x none (some (k : Int)) ++ [x.getD (k + 1) 0]) ++ cutD x (some ((k : Int) + 1)) none)) (er_cat3 (er_var rfl rx e07) hx hn eo_none (eo_some (er_vint rfl)) (ea_cons (er_ixT (xs := (show Tp Int from x)) (er_var rfl rx e07) (er_add (er_vint rfl) er_int) x1) ea_nil) (by show 1 ≤ 3; decide) (eo_some (er_add (er_vint rfl) er_int)) eo_none) (by have := st.2.1; omega) fun H8 k8 _ o8 => ?_
    have st := st.app (t := (show Tp Int from (cutD x none (some (k : Int)) ++ [x.getD (k + 1) 0]) ++ cutD x (some ((k : Int) + 1)) none)) (by
      show List.length (α := Int) ((_ : List Int) ++ (_ : List Int)) ≤ _
      rw [List.length_append, List.length_append]
      show _ + 1 + _ ≤ _
      omega)
    have e08 := k8 H e07 hHp
    refine s_app (α := Tp Int) (l := 4) rfl o8 (x := (show Tp Int from (cutD x none (some (k : Int)) ++ [x.getD (k + 1) 0, x.getD (k + 2) 0, x.getD k 0]) ++ cutD x (some ((k : Int) + 3)) none)) (er_cat3 (er_var rfl rx e08) hx hn eo_none (eo_some (er_vint rfl)) (ea_cons (er_ixT (xs := (show Tp Int from x)) (er_var rfl rx e08) (er_add (er_vint rfl) er_int) x1) (ea_cons (er_ixT (xs := (show Tp Int from x)) (er_var rfl rx e08) (er_add (er_vint rfl) er_int) x2) (ea_cons (er_ixT (xs := (show Tp Int from x)) (er_var rfl rx e08) (er_vint rfl) x0) ea_nil))) (by show 3 ≤ 3; decide) (eo_some (er_add (er_vint rfl) er_int)) eo_none) (by have := st.2.1; omega) fun H9 k9 _ o9 => ?_
    exact kk _ _ ⟨_, _, rfl, k9 H e08 hHp, o9, st.app (by
      show List.length (α := Int) ((_ : List Int) ++ (_ : List Int)) ≤ _
      rw [List.length_append, List.length_append]
      show _ + 3 + _ ≤ _
      omega)⟩
  clear st o4 e04 e4
  rintro σ' H5 ⟨o, xs, rfl, e05, o5, st⟩
  refine q_ifJ (K := K) (b := decide (3 < (n : Int))) (J := fun σ' H' => ∃ o xs, σ' = [some v, some u, some (.int i), some (.int n), some (.ref p), o] ∧ Ex H H' ∧ Z.Own K H' p xs ∧ Sets n 75 x xs)
    ?_ (et_test (er_gt (er_vint rfl) er_int)) (fun kk hb H6 e6 => ?_) (fun kk hb H6 e6 => kk _ _ ⟨_, xs, rfl, e05.trans e6, o5.mono e6, st.le (by omega)⟩)
  rotate_left
  · have hb := of_decide_eq_true hb
    have m0 := Int.emod_nonneg i (b := (n : Int) - 3) (by omega)
    have m1 := Int.emod_lt_of_pos i (b := (n : Int) - 3) (by omega)
    refine q_setI (K := K) (x := i % ((n : Int) - 3)) (er_mod (er_vint rfl) (er_sub (er_vint rfl) er_int) (by omega)) fun H7 e7 => ?_
    obtain ⟨k, hk⟩ : ∃ k : Int, k = i % ((n : Int) - 3) := ⟨_, rfl⟩
    rw [← hk] at m0 m1 ⊢
    have e07 := e05.trans (e6.trans e7)
    have l1 : ∀ k j, (swapD x k j).length = n := fun k j => (swapD_len x k j).trans hx
    refine q_app (α := Tp Int) (l := 4) rfl (o5.mono (e6.trans e7)) (x := (show Tp Int from swapD (swapD x k.toNat (k + 1).toNat) (k + 2).toNat (k + 3).toNat)) (swp (swp (er_var rfl rx e07) (er_vint rfl) (er_add (er_vint rfl) er_int) (by omega) (by omega) (by omega) (by omega)) (er_add (er_vint rfl) er_int) (er_add (er_vint rfl) er_int) (by omega) (by rw [l1]; omega) (by omega) (by rw [l1]; omega)) (by have := st.2.1; omega) fun H8 k8 _ o8 => ?_
    have st := st.app (t := (show Tp Int from swapD (swapD x k.toNat (k + 1).toNat) (k + 2).toNat (k + 3).toNat)) (by show (swapD _ _ _).length ≤ _; rw [swapD_len, l1]; omega)
    have e08 := k8 H e07 hHp
    refine s_app (α := Tp Int) (l := 4) rfl o8 (x := (show Tp Int from swapD x k.toNat (k + 3).toNat)) (swp (er_var rfl rx e08) (er_vint rfl) (er_add (er_vint rfl) er_int) (by omega) (by omega) (by omega) (by omega)) (by have := st.2.1; omega) fun H9 k9 _ o9 => ?_
    exact kk _ _ ⟨_, _, rfl, k9 H e08 hHp, o9, st.app (by show (swapD _ _ _).length ≤ _; rw [l1]; omega)⟩
  clear st o5 e05
  rintro σ' H6 ⟨o, xs, rfl, e06, o6, st⟩
  refine q_ifJ (K := K) (b := decide (0 < (n : Int))) (J := fun σ' H' => ∃ o xs, σ' = [some v, some u, some (.int i), some (.int n), some (.ref p), o] ∧ Ex H H' ∧ Z.Own K H' p xs ∧ Sets n 77 x xs)
    ?_ (et_test (er_gt (er_vint rfl) er_int)) (fun kk hb H7 e7 => ?_) (fun kk hb H7 e7 => kk _ _ ⟨_, xs, rfl, e06.trans e7, o6.mono e7, st.le (by omega)⟩)
  rotate_left
  · have hb := of_decide_eq_true hb
    have m0 := Int.emod_nonneg i (b := (n : Int)) (by omega)
    have m1 := Int.emod_lt_of_pos i (b := (n : Int)) (by omega)
    have e07 := e06.trans e7
    obtain ⟨k, hk⟩ : ∃ k : Nat, (k : Int) = i % (n : Int) := ⟨(i % (n : Int)).toNat, by omega⟩
    have x0 : atI x (i % (n : Int)) = some (x.getD k 0) := by
      rw [← hk]
      exact atI_D (by omega)
    refine q_app (α := Tp Int) (l := 4) rfl (o6.mono e7) (x := (show Tp Int from x ++ [x.getD k 0])) (er_catT (xs := (show Tp Int from x)) (ys := (show Tp Int from [x.getD k 0])) (er_var rfl rx e07) (er_tup (ea_cons (er_ixT (xs := (show Tp Int from x)) (er_var rfl rx e07) (er_mod (er_vint rfl) (er_vint rfl) hb) x0) ea_nil)) (by show x.length + 1 ≤ _; omega)) (by have := st.2.1; omega) fun H8 k8 _ o8 => ?_
    have st := st.app (t := (show Tp Int from x ++ [x.getD k 0])) (by show List.length (α := Int) ((_ : List Int) ++ (_ : List Int)) ≤ _; rw [List.length_append]; show _ + 1 ≤ _; omega)
    have e08 := k8 H e07 hHp
    refine s_app (α := Tp Int) (l := 4) rfl o8 (x := (show Tp Int from cutD x none (some (-1)) ++ [(n : Int) + i % 3])) (er_catT (xs := (show Tp Int from cutD x none (some (-1)))) (ys := (show Tp Int from [(n : Int) + i % 3])) (er_slT (xs := (show Tp Int from x)) (er_var rfl rx e08) eo_none (eo_some (er_neg er_int))) (er_tup (ea_cons (er_add (er_vint rfl) (er_mod (er_vint rfl) er_int (by decide))) ea_nil)) (by show (cutD x none (some (-1))).length + 1 ≤ _; omega)) (by have := st.2.1; omega) fun H9 k9 _ o9 => ?_
    exact kk _ _ ⟨_, _, rfl, k9 H e08 hHp, o9, st.app (by show List.length (α := Int) ((_ : List Int) ++ (_ : List Int)) ≤ _; rw [List.length_append]; show _ + 1 ≤ _; omega)⟩
  rintro σ' H7 ⟨o, xs, rfl, e07, o7, st⟩
  exact ⟨_, rfl, q p xs H7 hHp e07 o7 (st.le (by omega))⟩
end
set_option Elab.async false
set_option linter.all false
set_option maxRecDepth 100000
set_option maxHeartbeats 400000
set_option autoImplicit false
open PySem L2 Z
open Evl (Ex)
theorem nexts_len {n : Nat} {fs : List (Tp Int)} {x : List Int} : (nexts n fs x).length ≤ n := by
  unfold nexts
  rw [srtK_len]
  refine Nat.le_trans (List.length_filter_le _ _) ?_
  rw [List.length_map, List.length_range]
  omega
theorem nexts_small {n : Nat} {fs : List (Tp Int)} {x : List Int} (ox : IsOrd n x) (hn : n ≤ 60) : Small (nexts n fs x) := ⟨by have := nexts_len (n := n) (fs := fs) (x := x); omega, fun t ht => by
  have := (nexts_rows ox (by omega) t (srtK_mem.mp ht)).1
  omega⟩
section
variable {P : Program} {w : World} {K : PySem.W.Frag} {mg : Str → Option Value} {base : Heap} {a : Ad}
theorem er_isChg {C : Addr} {E : XK} {G H : Hp} {te tu tv : TE} {σ : L2.St} {r l : Addr} {n : Nat} {fs : List (Tp Int)} {x y : List Int} (h : EV K te σ H (.ref r)) (at_ : OrdAt K C G r l n fs) (e : Ex G H) (gf : Good n fs) (hz : fs.length ≤ 50000) (hn : n ≤ 200)
    (hu : ER K tu σ H (show Tp Int from x)) (hv : ER K tv σ H (show Tp Int from y)) (hx : x.length ≤ 50000) (hy : y.length ≤ 50000) : ER K (tMeth C "is_change" (spIsChg K C) [] E te (tCons tu (tCons tv tNil))) σ H (isChg n fs x y) := fun H1 e1 Q q =>
  h H1 e1 _ fun H2 e2 => by
    obtain ⟨⟨dx, h1⟩, h2⟩ := at_.mono (e.trans (e1.trans e2))
    refine ⟨r, dx, _, rfl, h1, rfl, hu H2 (e1.trans e2) _ fun v H3 e3 rv => hv H3 (e1.trans (e2.trans e3)) _ fun u H4 e4 ru => ⟨r, l, n, fs, v, u, x, y, rfl, at_.mono (e.trans (e1.trans (e2.trans (e3.trans e4)))), gf, hz, hn, rv.mono e4, ru, hx, hy, fun H5 e5 => q _ H5 (e2.trans (e3.trans (e4.trans e5))) (rep_bool _)⟩⟩
theorem el_next {C : Addr} {E : XK} {G H : Hp} {te tu : TE} {σ : L2.St} {r l : Addr} {n : Nat} {fs : List (Tp Int)} {x : List Int} (h : EV K te σ H (.ref r)) (at_ : OrdAt K C G r l n fs) (e : Ex G H) (gf : Good n fs) (hz : fs.length ≤ 50000) (hn : n ≤ 60)
    (hu : ER K tu σ H (show Tp Int from x)) (ox : IsOrd n x) : EL K (tMeth C "next_answers" (spNext K C) [] E te (tCons tu tNil)) σ H (nexts n fs x) := fun H1 e1 Q q =>
  h H1 e1 _ fun H2 e2 => by
    obtain ⟨⟨dx, h1⟩, h2⟩ := at_.mono (e.trans (e1.trans e2))
    refine ⟨r, dx, _, rfl, h1, rfl, hu H2 (e1.trans e2) _ fun v H3 e3 rv => ⟨r, l, n, fs, v, x, rfl, at_.mono (e.trans (e1.trans (e2.trans e3))), gf, hz, hn, rv, ox, fun p H4 hp e4 o4 => q p H4 (fresh_back (e2.trans e3) hp) (e2.trans (e3.trans e4)) o4⟩⟩
theorem el_lNext {E : XK} {H : Hp} {te tn tf : TE} {σ : L2.St} {n : Nat} {x : List Int} {fs : List (Tp Int)} (h : ER K te σ H (show Tp Int from x)) (hn : ER K tn σ H (n : Int)) (hf : ER K tf σ H fs) (gf : Good n fs) (hz : fs.length ≤ 50000) (h2 : n ≤ 60) (ox : IsOrd n x) :
    EL K (tCall (spLNext K) [] E (tCons te (tCons tn (tCons tf tNil)))) σ H (nexts n fs x) := fun H1 e1 Q q =>
  h H1 e1 _ fun v H2 e2 rv => hn.evI H2 (e1.trans e2) _ fun H3 e3 => hf H3 (e1.trans (e2.trans e3)) _ fun u H4 e4 ru => ⟨n, v, u, x, fs, rfl, rv.mono (e3.trans e4), ru, gf, hz, h2, ox, fun p H5 hp e5 o5 => q p H5 (fresh_back (e2.trans (e3.trans e4)) hp) (e2.trans (e3.trans (e4.trans e5))) o5⟩
theorem er_blocked {C : Addr} {E : XK} {G H : Hp} {te t1 t2 t3 : TE} {σ : L2.St} {r l : Addr} {n : Int} {fs : List (Tp Int)} {α β γ : Type} [Dat α] [Dat β] [Dat γ] {x : α} {y : β} {z : γ} (h : EV K te σ H (.ref r)) (at_ : OrdAt K C G r l n fs) (e : Ex G H) (h1 : ER K t1 σ H x) (h2 : ER K t2 σ H y) (h3 : ER K t3 σ H z) :
    ER K (tMeth C "blocked" spBlocked [] E te (tCons t1 (tCons t2 (tCons t3 tNil)))) σ H false := fun H1 e1 Q q =>
  h H1 e1 _ fun H2 e2 => by
    obtain ⟨⟨dx, h0⟩, _⟩ := at_.mono (e.trans (e1.trans e2))
    refine ⟨r, dx, _, rfl, h0, rfl, h1 H2 (e1.trans e2) _ fun v1 H3 e3 _ => h2 H3 (e1.trans (e2.trans e3)) _ fun v2 H4 e4 _ => h3 H4 (e1.trans (e2.trans (e3.trans e4))) _ fun v3 H5 e5 _ => ⟨_, _, _, _, rfl, fun H6 e6 => q _ H6 (e2.trans (e3.trans (e4.trans (e5.trans e6)))) (rep_bool _)⟩⟩
def spDoors (K : PySem.W.Frag) (C : Addr) : Sp := fun vs H Q _ => ∃ (r l : Addr) (n m k : Nat) (fs : List (Tp Int)) (v u : V) (x : List Int) (xs : List (Tp Int)), vs = [.ref r, v, .int n, u] ∧ OrdAt K C H r l n fs ∧ Good n fs ∧ fs.length ≤ 50000 ∧ n ≤ 60 ∧ Rep K H v xs ∧ Rep K H u fs ∧ Sets k m x xs ∧ k ≤ 60 ∧ ∀ H', Ex H H' → Q (.bl true) H'
theorem ok_law_doors_stand (T : Txt P K mg a) : FnOk P w K mg base CX0 4 a.f_law_doors_stand a.d_law_doors_stand ["world", "settings", "count", "facts"] (spDoors K a.C_Orders) := by
  refine T.F_law_doors_stand.ok sc_law_doors_stand (fun vs H Q E (h : spDoors K a.C_Orders vs H Q E) => by obtain ⟨r, l, n, m, k, fs, v, u, x, xs, rfl, _⟩ := h; rfl) (fun cdv A outer s H vs Q E hr h => ⟨_, (pss_cons (ps_set (i := 4) sc_law_doors_stand.nd rfl (Or.inl rfl) (pe_ix (k_ix_list (K := K) rfl) (pv 1) pe_int (fun _ _ => rfl)))
  (pss_cons (ps_for PassesOwn.never rfl (k_pi_list (K := K) rfl (pv 1)) (pg_name (i := 5) sc_law_doors_stand.nd rfl (Or.inl rfl))
  (pss_cons (ps_set (i := 6) sc_law_doors_stand.nd rfl (Or.inl rfl) (pe_call (ok_law_is_order T) (hr.mono (by decide)) (by rfl) T.m__law_is_order T.F_law_is_order.kp T.b_law_is_order .nil pass0 (pa_cons (pv 5) (pa_cons (pv 2) (pa_cons (pv 3) pa_nil)))))
  (pss_cons (ps_if (pt_not (pt_val (pe_call (ok_law_truth T) (hr.mono (by decide)) (by rfl) T.m__law_truth T.F_law_truth.kp T.b_law_truth .nil pass0 (pa_cons (pe_meth (pv 0) T.cl_Orders T.me_Orders_is_answer (ok_Orders_is_answer T) (hr.mono (by decide)) T.b_Orders_is_answer .nil pass0 (pa_cons (pv 5) pa_nil)) (pa_cons (pv 6) pa_nil)))))
  (pss_one (ps_ret pe_bl))
  pss_nil)
  (pss_cons (ps_if (pt_not (pt_val (pe_call (ok_law_truth T) (hr.mono (by decide)) (by rfl) T.m__law_truth T.F_law_truth.kp T.b_law_truth .nil pass0 (pa_cons (pe_meth (pv 0) T.cl_Orders T.me_Orders_is_change (ok_Orders_is_change T) (hr.mono (by decide)) T.b_Orders_is_change .nil pass0 (pa_cons (pv 4) (pa_cons (pv 5) pa_nil))) (pa_cons (pe_call (ok_law_is_change T) (hr.mono (by decide)) (by rfl) T.m__law_is_change T.F_law_is_change.kp T.b_law_is_change .nil pass0 (pa_cons (pv 4) (pa_cons (pv 5) (pa_cons (pv 2) (pa_cons (pv 3) pa_nil))))) pa_nil)))))
  (pss_one (ps_ret pe_bl))
  pss_nil)
  (pss_cons (ps_if (pt_not (pt_val (pe_call (ok_law_truth T) (hr.mono (by decide)) (by rfl) T.m__law_truth T.F_law_truth.kp T.b_law_truth .nil pass0 (pa_cons (pe_meth (pv 0) T.cl_Orders T.me_Orders_is_change (ok_Orders_is_change T) (hr.mono (by decide)) T.b_Orders_is_change .nil pass0 (pa_cons (pv 5) (pa_cons (pv 4) pa_nil))) (pa_cons (pe_call (ok_law_is_change T) (hr.mono (by decide)) (by rfl) T.m__law_is_change T.F_law_is_change.kp T.b_law_is_change .nil pass0 (pa_cons (pv 5) (pa_cons (pv 4) (pa_cons (pv 2) (pa_cons (pv 3) pa_nil))))) pa_nil)))))
  (pss_one (ps_ret pe_bl))
  pss_nil)
  (pss_one (ps_if (pt_val (pv 6))
  (pss_cons (ps_if (pt_not (pt_val (pe_call (ok_law_equal T) (hr.mono (by decide)) (by rfl) T.m__law_equal T.F_law_equal.kp T.b_law_equal .nil pass0 (pa_cons (pe_meth (pv 0) T.cl_Orders T.me_Orders_next_answers (ok_Orders_next_answers T) (hr.mono (by decide)) T.b_Orders_next_answers .nil pass0 (pa_cons (pv 5) pa_nil)) (pa_cons (pe_call (ok_law_next T) (hr.mono (by decide)) (by rfl) T.m__law_next T.F_law_next.kp T.b_law_next .nil pass0 (pa_cons (pv 5) (pa_cons (pv 2) (pa_cons (pv 3) pa_nil)))) pa_nil)))))
  (pss_one (ps_ret pe_bl))
  pss_nil)
  (pss_one (ps_for PassesOwn.never rfl (pi_range1 (by rfl) T.z_range (pa_cons (pv 2) pa_nil)) (pg_name (i := 7) sc_law_doors_stand.nd rfl (Or.inl rfl))
  (pss_one (ps_if (pt_not (pt_val (pe_call (ok_law_truth T) (hr.mono (by decide)) (by rfl) T.m__law_truth T.F_law_truth.kp T.b_law_truth .nil pass0 (pa_cons (pe_meth (pv 0) T.cl_Orders T.me_Orders_blocked (ok_Orders_blocked T) (hr.mono (by decide)) T.b_Orders_blocked .nil pass0 (pa_cons (pv 5) (pa_cons (pe_lc (own := [("k", 8)]) rfl sc_law_doors_stand.nd (pi_range1 (by rfl) T.z_range (pa_cons (pv 2) pa_nil)) (blkOk_by (own := [("k", 8)]) (N := N_law_doors_stand) (sc := defScope s_law_doors_stand) (by decide +kernel)) (fun _ _ _ _ _ => (pg_name (i := 8) sc_law_doors_stand.nd rfl (Or.inl rfl))) (fun _ _ _ _ _ => pts_nil) (fun _ _ _ _ _ => (pv 8))) (pa_cons (pv 7) pa_nil)))) (pa_cons pe_bl pa_nil)))))
  (pss_one (ps_ret pe_bl))
  pss_nil)))))
  pss_nil)))))))
  (pss_one (ps_ret pe_bl)))), ?_⟩)
  obtain ⟨r, l, n, m, k, fs, v, u, x, xs, rfl, at_, gf, hz, hn, rv, ru, ⟨st1, st2, st3⟩, hk, q⟩ := h
  have hxl : x.length ≤ 50000 := by
    have := st3 _ (List.mem_of_getElem? st1)
    have : x.length ≤ k + 5 := this
    omega
  refine q_set (K := K) (x := (show Tp Int from x)) (er_ixL (xs := xs) (er_var rfl rv (Ex.refl _)) er_int (Z.atI_ofN (k := 0) st1)) fun vo H1 e1 ro => ?_
  refine q_forV (K := K) (xs := xs) rfl (rv.mono e1) (Ex.refl _) (fun i σ' _ => ∃ o5 o6 o7, σ' = [some (.ref r), some v, some (.int n), some u, some vo, o5, o6, o7, none]) ⟨_, _, _, rfl⟩ ?_ ?_
  · rintro i t w' σ' H2 hi e2 rt ⟨o5, o6, o7, rfl⟩
    have htl : List.length t ≤ 50000 := by
      have := st3 t (List.mem_of_getElem? hi)
      omega
    have rt2 := rt.mono e2
    have e02 := e1.trans e2
    show tSeq _ _ _ _ _
    refine q_setB (K := K) (x := isOrd n fs t) (er_lIsOrd (er_var (x := t) rfl rt2 (Ex.refl _)) (er_vint rfl) (er_var rfl ru e02) gf hz (by omega) htl) fun H3 e3 => ?_
    have e03 := e02.trans e3
    refine q_ifF (K := K) (b := !true) (et_not (et_B (ER.is (er_c2 (x := isOrd n fs t) (y := isOrd n fs t) (er_isAns (ev_var rfl) at_ e03 gf hz (by omega) (er_var (x := t) rfl rt2 e3) htl) (er_vbl rfl) trivial) (decide_eq_true rfl)))) rfl fun H4 e4 => ?_
    have e04 := e03.trans e4
    have e34 := e3.trans e4
    refine q_ifF (K := K) (b := !true) (et_not (et_B (ER.is (er_c2 (x := isChg n fs x t) (y := isChg n fs x t) (er_isChg (ev_var rfl) at_ e04 gf hz (by omega) (er_var (x := (show Tp Int from x)) rfl ro (e2.trans e34)) (er_var (x := t) rfl rt2 e34) hxl htl) (er_lChg (er_var (x := (show Tp Int from x)) rfl ro (e2.trans e34)) (er_var (x := t) rfl rt2 e34) (er_vint rfl) (er_var rfl ru e04) gf hz (by omega) hxl htl) trivial) (decide_eq_true rfl)))) rfl fun H5 e5 => ?_
    have e05 := e04.trans e5
    have e35 := e34.trans e5
    refine q_ifF (K := K) (b := !true) (et_not (et_B (ER.is (er_c2 (x := isChg n fs t x) (y := isChg n fs t x) (er_isChg (ev_var rfl) at_ e05 gf hz (by omega) (er_var (x := t) rfl rt2 e35) (er_var (x := (show Tp Int from x)) rfl ro (e2.trans e35)) htl hxl) (er_lChg (er_var (x := t) rfl rt2 e35) (er_var (x := (show Tp Int from x)) rfl ro (e2.trans e35)) (er_vint rfl) (er_var rfl ru e05) gf hz (by omega) htl hxl) trivial) (decide_eq_true rfl)))) rfl fun H6 e6 => ?_
    have e06 := e05.trans e6
    have e36 := e35.trans e6
    refine s_if (K := K) (b := isOrd n fs t) (et_B (er_vbl rfl)) (fun hb H7 e7 => ?_) (fun hb H7 e7 => ⟨e2.trans (e36.trans e7), _, _, _, rfl⟩)
    have ot := isOrd_of hb
    have e07 := e06.trans e7
    have e37 := e36.trans e7
    refine q_ifF (K := K) (b := !true) (et_not (et_B (er_c2 (x := nexts n fs t) (y := nexts n fs t) (EL.er (el_next (ev_var rfl) at_ e07 gf hz hn (er_var (x := t) rfl rt2 e37) ot)) (EL.er (el_lNext (er_var (x := t) rfl rt2 e37) (er_vint rfl) (er_var rfl ru e07) gf hz hn ot)) ⟨rfl, nexts_small ot hn⟩))) rfl fun H8 e8 => ?_
    have e08 := e07.trans e8
    have e38 := e37.trans e8
    refine s_rng (K := K) (n := (n : Int)) (er_vint rfl) (by omega) (by omega) fun H9 e9 => ⟨H1, fun j σ' _ => ∃ o7, σ' = [some (.ref r), some v, some (.int n), some u, some vo, some w', some (.bl (isOrd n fs t)), o7, none], e2.trans (e38.trans e9), ⟨_, rfl⟩, ?_, ?_⟩
    · rintro j σ' H10 hj e10 ⟨o7, rfl⟩
      refine s_ifF (K := K) (b := !true) (et_not (et_B (ER.is (er_c2 (x := false) (y := false) (er_blocked (x := t) (y := rng n) (z := (j : Int)) (ev_var rfl) at_ (e1.trans e10) (er_var (x := t) rfl rt e10) (EL.er (EL.is (el_rmap (n := (n : Int)) (f := fun (k : Nat) => (k : Int)) (er_vint rfl) (by omega) (by omega) (fun k H' hk e => er_vint rfl)) rfl)) (er_vint rfl)) er_bl trivial) (decide_eq_true rfl)))) rfl fun H11 e11 => ⟨e10.trans e11, _, rfl⟩
    · rintro σ' H10 e10 ⟨o7, rfl⟩
      exact ⟨e10, _, _, _, rfl⟩
  · rintro σ' H2 e2 ⟨o5, o6, o7, rfl⟩
    refine s_ret (K := K) (x := true) er_bl fun w H3 e3 r3 => ?_
    rw [Rep.bool r3]
    exact q H3 (e1.trans (e2.trans e3))
/-- a refused Orders -/
theorem s_mkS2 {C : Addr} {sp : Sp} {E : L2.St → XK} {α : Type} [Dat α] {xs : α} {w : V} {te tu : TE} {σ : L2.St} {H : Hp} {Q : VK} (h : EV K te σ H w) (h2 : ER K tu σ H xs) (k : ∀ v H1, Ex H H1 → Rep K H1 v xs → ∀ x dx, H1 x = none → H1 dx = none → dx ≠ x → sp [.ref x, w, v] (upd (upd H1 dx (.own x)) x (.ins C dx [])) (fun v H2 => v = .non ∧ Q (.ref x) H2) (E σ)) :
    tMakeS C sp E (tCons te (tCons tu tNil)) σ H Q := h H (Ex.refl H) _ fun H1 e1 => h2 H1 e1 _ fun v H2 e2 r => k v H2 (e1.trans e2) r
theorem mk_core {C N : Addr} {H1 : Hp} {v : V} {n : Int} {fs : List (Tp Int)} {Q : VK} {E : XK} (r : Rep K H1 v fs) (h2 : Two fs) (hz : fs.length ≤ 50000) (k : badAt n fs = none → ∀ r l H2, H1 r = none → H1 l = none → r ≠ l → Ex H1 H2 → OrdAt K C H2 r l n fs → Q (.ref r) H2)
    (ke : ∀ k, badAt n fs = some k → ∀ d H2, Ex H1 H2 → H2 d = some (.xd [("index", .int k)]) → E (.ref N) (some d) H2) :
    ∀ x dx, H1 x = none → H1 dx = none → dx ≠ x → spOrders K C N [.ref x, .int n, v] (upd (upd H1 dx (.own x)) x (.ins C dx [])) (fun v H2 => v = .non ∧ Q (.ref x) H2) E := fun x dx hx hdx hne => by
  have e1 : Ex H1 (upd H1 dx (.own x)) := Evl.Ex.new hdx
  have hx' : (upd H1 dx (.own x)) x = none := by rw [upd_ne (Ne.symm hne)]; exact hx
  have e2 : Ex (upd H1 dx (.own x)) (upd (upd H1 dx (.own x)) x (.ins C dx [])) := Evl.Ex.new hx'
  refine ⟨x, n, v, fs, rfl, ⟨dx, upd_same⟩, r.mono (e1.trans e2), h2, hz, fun hb H' l hl ex at_ => ⟨rfl, k hb x l H' hx (fresh_back (e1.trans e2) hl) (fun z => by rw [← z, upd_same] at hl; cases hl) ?_ at_⟩, fun i hi d H' e' hd => ke i hi d H' ((e1.trans e2).trans e') hd⟩
  rw [cut_updn hx'] at ex
  exact e1.trans (ex.trans cut_ex)
/-- a new world -/
def NewOrd (K : PySem.W.Frag) (C : Addr) (te : TE) (σ : L2.St) (H : Hp) (n : Int) (fs : List (Tp Int)) : Prop := ∀ H1, Ex H H1 → ∀ Q : VK, (∀ r l H2, H1 r = none → H1 l = none → Ex H1 H2 → OrdAt K C H2 r l n fs → Q (.ref r) H2) → te σ H1 Q
theorem new_ord {C N : Addr} {te tu : TE} {σ : L2.St} {H : Hp} {n : Int} {fs : List (Tp Int)} (h : ER K te σ H n) (h' : ER K tu σ H fs) (h2 : Two fs) (hz : fs.length ≤ 50000) (hb : badAt n fs = none) : NewOrd K C (tMake C (spOrders K C N) [] E0 (tCons te (tCons tu tNil))) σ H n fs := fun H1 e1 Q q =>
  h.evI H1 e1 _ fun H2 e2 => h' H2 (e1.trans e2) _ fun v H3 e3 r => mk_core r h2 hz (fun _ r l H4 hr hl _ e4 at_ => q r l H4 (fresh_back (e2.trans e3) hr) (fresh_back (e2.trans e3) hl) (e2.trans (e3.trans e4)) at_) fun k hk => by rw [hb] at hk; cases hk
def spRefused (K : PySem.W.Frag) : Sp := fun vs H Q _ => ∃ (n k : Int) (v : V) (fs : List (Tp Int)), vs = [.int n, v, .int k] ∧ Rep K H v fs ∧ Two fs ∧ fs.length ≤ 50000 ∧ badAt n fs = some k ∧ ∀ H', Ex H H' → Q (.bl true) H'
theorem ok_law_refused (T : Txt P K mg a) : FnOk P w K mg base CX0 5 a.f_law_refused a.d_law_refused ["count", "facts", "index"] (spRefused K) := by
  refine T.F_law_refused.ok sc_law_refused (fun vs H Q E (h : spRefused K vs H Q E) => by obtain ⟨n, k, v, fs, rfl, _⟩ := h; rfl) (fun cdv A outer s H vs Q E hr h => ⟨_, (pss_cons (ps_try_as (i := 3) (Wout := fun _ _ _ _ => False) rfl rfl sc_law_refused.nd rfl rfl ⟨rfl, by decide, Or.inl T.m_BadWorld⟩ takes0
  (fun W pn xe tk po => (pss_one (ps_expr (pe_makeS T.mk_Orders (ok_Ordersw_initw T) (hr.mono (by decide)) (by rfl) T.m_Orders T.b_Ordersw_initw (fun σ => passAt tk σ) (pa_cons (pv 0) (pa_cons (pe_callTy (k_call_list_of (K := K) rfl) (by rfl) T.z_list (by decide +kernel) (pa_cons (pv 1) pa_nil)) pa_nil))))))
  (fun ae oe cls d pn hz hf => (pss_cons (ps_if (PW.pt (pw_or (pt_not (pt_val (pe_callB (call_isX hz hf) (by rfl) T.z_isinstance (by decide +kernel) (pa_cons (pv 3) (pa_cons (pe_glob (v := .ref a.C_StepError) (by rfl) T.m_StepError rfl) pa_nil))))) (pw_or (pt_not (pt_val (pe_callB (call_isX hz hf) (by rfl) T.z_isinstance (by decide +kernel) (pa_cons (pv 3) (pa_cons (pe_bltn (v := .ty "ValueError") (by rfl) T.z_ValueError (by decide +kernel) rfl) pa_nil))))) (pw_or1 (pt_val (pe_callB (call_isX hz hf) (by rfl) T.z_isinstance (by decide +kernel) (pa_cons (pv 3) (pa_cons (pe_glob (v := .ref a.C_BadWeb) (by rfl) T.m_BadWeb rfl) pa_nil))))))))
  (pss_one (ps_ret pe_bl))
  pss_nil)
  (pss_one (ps_ret (pe_callW (okW_law_int T) (roomW (j := 1) hr (by decide)) (by rfl) T.m__law_int T.F_law_int.kp T.b_law_int pass0 (pa_cons (pe_xf T.xf_BadWorld T.nf_BadWorld_index hz hf (pv 3)) (pa_cons (pv 2) pa_nil))))))))
  (pss_one (ps_ret pe_bl))), ?_⟩)
  obtain ⟨n, k, v, fs, rfl, rv, h2, hz, hb, q⟩ := h
  refine s_seq ?_
  refine s_drop ?_
  refine s_mkS2 (K := K) (xs := fs) (w := .int n) (ev_var rfl) (EL.er (el_list (er_var rfl rv (Ex.refl _)))) fun v1 H1 e1 r1 => ?_
  refine mk_core (Q := fun _ H2 => tRet (tC (.bl false)) { nx := fun x H' => Q V.non H', rt := Q } (L2.start N_law_refused [.int n, v, V.int k]) H2) r1 h2 hz (fun h => by rw [hb] at h; cases h) fun k' hk d H2 e2 hd => ?_
  obtain rfl : k = k' := by rw [hb] at hk; exact Option.some.inj hk
  refine ⟨true, T.exm_BadWorld_BadWorld, fun _ ae hae => ?_, fun z => by cases z⟩
  refine q_ifF (K := K) (et_orU (et_not (et_B (er_isX (ev_var rfl) hd (Ex.refl _) T.xc_BadWorld (fun u r => r) T.kit_BadWorld_StepError))) (et_orU (et_not (et_B (er_isX (ev_var rfl) hd (Ex.refl _) T.xc_BadWorld (fun u r => r) T.kit_BadWorld_ValueError))) (et_B (er_isX (ev_var rfl) hd (Ex.refl _) T.xc_BadWorld (fun u r => r) T.kit_BadWorld_BadWeb)))) rfl fun H3 e3 => ?_
  refine s_ret (K := K) (x := true) (ER.is (er_c2 (x := k) (y := k) (er_xf (ev_var rfl) hd e3 rfl (rep_int k)) (er_vint rfl) trivial) (decide_eq_true rfl)) fun v H4 e4 r4 => ?_
  rw [Rep.bool r4]
  exact q H4 (e1.trans (e2.trans (e3.trans e4)))
theorem er_refused {E : XK} {H : Hp} {tn tf tk : TE} {σ : L2.St} {n k : Int} {fs : List (Tp Int)} (hn : ER K tn σ H n) (h : ER K tf σ H fs) (hk : ER K tk σ H k) (h2 : Two fs) (hz : fs.length ≤ 50000) (hb : badAt n fs = some k) : ER K (tCall (spRefused K) [] E (tCons tn (tCons tf (tCons tk tNil)))) σ H true := fun H1 e1 Q q =>
  hn.evI H1 e1 _ fun H2 e2 => h H2 (e1.trans e2) _ fun v H3 e3 rv => hk.evI H3 (e1.trans (e2.trans e3)) _ fun H4 e4 => ⟨n, k, v, fs, rfl, rv.mono e4, h2, hz, hb, fun H5 e5 => q _ H5 (e2.trans (e3.trans (e4.trans e5))) (rep_bool _)⟩
end
set_option Elab.async false
set_option linter.all false
set_option maxRecDepth 100000
set_option maxHeartbeats 1000000
set_option autoImplicit false
open PySem L2 Z
open Evl (Ex)
/-! ### plain facts -/
theorem sset_small {n : Int} {fs : List (Tp Int)} (h : Facts n fs) (hl : fs.length ≤ 50000) : Small (sset 64 fs) := ⟨Nat.le_trans sset_len hl, fun t ht => by
  have := (h t (sset_mem.mp ht)).1
  omega⟩
theorem facts_rows {n : Nat} {fs : List (Tp Int)} (h : Facts n fs) (hn : n ≤ 64) : Rows 2 64 fs := fun t ht => ⟨(h t ht).1, fun m hm => by
  have := (h.good t ht).2 m hm
  omega⟩
theorem facts_bad {n : Nat} {fs : List (Tp Int)} (h : Facts n fs) (hn : n ≤ 9) (hl : fs.length ≤ 36) : badAt n fs = none := by
  unfold badAt
  rw [if_neg (by omega)]
  exact badFrom_none.mp fun t ht => (h t ht).2
theorem rowN_two {b a : List Int} {i j : Nat} : ∀ t : Tp Int, t ∈ rowN b a i j → List.length t = 2 := by
  induction j with
  | zero => intro t ht; cases ht
  | succ j ih =>
    intro t ht
    rw [rowN_succ] at ht
    rcases List.mem_append.mp ht with ht | ht
    · exact ih t ht
    · split at ht
      · rw [List.mem_singleton.mp ht]
        rfl
      · cases ht
theorem pairsN_two {b a : List Int} {n i : Nat} : ∀ t : Tp Int, t ∈ pairsN b a n i → List.length t = 2 := by
  induction i with
  | zero => intro t ht; cases ht
  | succ i ih =>
    intro t ht
    have ht : t ∈ pairsN b a n i ++ rowN b a i (n - (i + 1)) := ht
    rcases List.mem_append.mp ht with ht | ht
    · exact ih t ht
    · exact rowN_two t ht
theorem pairs_small {x y : List Int} (h : x.length ≤ 200) : Small (pairs x y) := ⟨by
  have h1 := pairsN_len (spots x) (spots y) x.length x.length
  have h2 : x.length * x.length ≤ 200 * 200 := Nat.mul_le_mul h h
  show (pairsN _ _ _ _).length ≤ _
  omega, fun t ht => by
  have := pairsN_two t ht
  omega⟩
theorem rowN_self {b : List Int} {i j : Nat} : rowN b b i j = [] := by
  induction j with
  | zero => rfl
  | succ j ih =>
    rw [rowN_succ, ih, if_neg]
    · rfl
    · unfold pairT
      simp
theorem pairs_self {x : List Int} : pairs x x = [] := by
  unfold pairs
  suffices h : ∀ i, pairsN (spots x) (spots x) x.length i = [] from h _
  intro i
  induction i with
  | zero => rfl
  | succ i ih =>
    show pairsN _ _ _ i ++ rowN _ _ _ _ = []
    rw [ih, rowN_self]
    rfl
theorem srtK_rep {α : Type} {f : α → Int} {x : α} {n : Nat} : srtK f (List.replicate n x) = List.replicate n x := List.perm_replicate.mp srtK_perm
theorem dd_rep {α : Type} [DecidableEq α] {x : α} {n : Nat} : dd (List.replicate (n + 1) x) = [x] := by
  unfold dd
  rw [List.replicate_succ, List.foldl_cons]
  show List.foldl ddStep [x] _ = _
  induction n with
  | zero => rfl
  | succ n ih =>
    rw [List.replicate_succ, List.foldl_cons]
    have : ddStep [x] x = [x] := if_pos (List.mem_singleton.mpr rfl)
    rw [this]
    exact ih
theorem sset_rep {t : Tp Int} {n : Nat} : sset 64 (List.replicate (n + 1) t) = [t] := by
  unfold sset
  rw [srtK_rep, dd_rep]
theorem bad_many {n : Int} {fs : List (Tp Int)} (h : n < 0 ∨ 9 < n ∨ 36 < fs.length) : badAt n fs = some (-1) := if_pos h
/-- the facts with a wrong one at j -/
def wrongs (fs : List (Tp Int)) (t : Tp Int) (j : Nat) : List (Tp Int) := (fs.take j ++ [t]) ++ cutD fs (some (j : Int)) (some 34)
theorem wrongs_len {fs : List (Tp Int)} {t : Tp Int} {j : Nat} (h1 : j ≤ fs.length) (h2 : j ≤ 34) : (wrongs fs t j).length ≤ 35 := by
  unfold wrongs cutD
  rw [show (some (34 : Int)) = some ((34 : Nat) : Int) from rfl, HT.sIx_nat, HT.sIx_nat, List.length_append, List.length_append, List.length_take, List.length_take, List.length_drop, List.length_singleton]
  omega
theorem wrongs_lt {fs : List (Tp Int)} {t : Tp Int} {j k : Nat} (h1 : j ≤ fs.length) (hk : k < j) : (wrongs fs t j)[k]? = fs[k]? := by
  unfold wrongs
  rw [List.getElem?_append_left (by rw [List.length_append, List.length_take, List.length_singleton]; omega), List.getElem?_append_left (by rw [List.length_take]; omega), List.getElem?_take_of_lt hk]
theorem wrongs_at {fs : List (Tp Int)} {t : Tp Int} {j : Nat} (h1 : j ≤ fs.length) : (wrongs fs t j)[j]? = some t := by
  unfold wrongs
  rw [List.getElem?_append_left (by rw [List.length_append, List.length_take, List.length_singleton]; omega), List.getElem?_append_right (by rw [List.length_take]; omega), List.length_take, show j - min j fs.length = 0 by omega]
  rfl
theorem wrongs_two {fs : List (Tp Int)} {t : Tp Int} {j : Nat} (h : Two fs) (ht : List.length t = 2) : Two (wrongs fs t j) := fun u hu => by
  unfold wrongs cutD at hu
  rcases List.mem_append.mp hu with hu | hu
  · rcases List.mem_append.mp hu with hu | hu
    · exact h u (List.mem_of_mem_take hu)
    · rw [List.mem_singleton.mp hu]
      exact ht
  · exact h u (List.mem_of_mem_drop (List.mem_of_mem_take hu))
theorem wrongs_bad {n : Nat} {fs ws : List (Tp Int)} {t : Tp Int} {j : Nat} (hf : Facts n fs) (hn : n ≤ 9) (hl : ws.length ≤ 36) (ht : badF n (List.getD (α := Int) t 0 0) (List.getD (α := Int) t 1 0) = true) (h1 : ∀ k, k < j → ws[k]? = fs[k]?) (h2 : ws[j]? = some t) : badAt n ws = some (j : Int) := by
  unfold badAt
  rw [if_neg (by omega), badFrom_at (j := j) (t := t) (fun k u hk hu => ?_) h2 ht, Nat.zero_add]
  rw [h1 k hk] at hu
  exact (hf u (List.mem_of_getElem? hu)).2
section
variable {P : Program} {w : World} {K : PySem.W.Frag} {mg : Str → Option Value} {base : Heap} {a : Ad}
theorem q_order {E : XK} {H : Hp} {te tu : TE} {σ : L2.St} {c : Int} {n i : Nat} {u : TS} {D : Ends} (h : ER K te σ H c) (h' : ER K tu σ H (n : Int)) (hn : n ≤ 50) (k : ∀ (x : List Int) v H', IsOrd n x → Ex H H' → Rep K H' v (show Tp Int from x) → u D (σ.set i (some v)) H') :
    tSeq (tAsg (tCall (spOrder K) [] E (tCons te (tCons tu tNil))) (gName i)) u D σ H := h.evI H (Ex.refl _) _ fun H1 e1 => h'.evI H1 e1 _ fun H2 e2 => ⟨c, n, rfl, hn, fun t v H3 ho e3 r => k t v H3 ho (e1.trans (e2.trans e3)) r⟩
theorem q_facts {E : XK} {H : Hp} {te tm tx tb : TE} {σ : L2.St} {c : Int} {m n i : Nat} {x : List Int} {b : Bool} {u : TS} {D : Ends} (h : ER K te σ H c) (h1 : ER K tm σ H (m : Int)) (h2 : ER K tx σ H (show Tp Int from x)) (h3 : ER K tb σ H b) (ox : IsOrd n x) (hn : n ≤ 100) (hm : m ≤ 100)
    (k : ∀ p fs H', H p = none → Ex H H' → Z.Own K H' p fs → Facts n fs → fs.length ≤ m → (n < 2 → fs = []) → u D (σ.set i (some (.ref p))) H') :
    tSeq (tAsg (tCall (spFacts K) [] E (tCons te (tCons tm (tCons tx (tCons tb tNil))))) (gName i)) u D σ H := h.evI H (Ex.refl _) _ fun H1 e1 => h1.evI H1 e1 _ fun H2 e2 => h2 H2 (e1.trans e2) _ fun v H3 e3 r => h3.evB H3 (e1.trans (e2.trans e3)) _ fun H4 e4 =>
  ⟨c, m, n, v, x, b, rfl, r.mono e4, ox, hn, hm, fun p fs H5 hp e5 o hf hl hz => k p fs H5 (fresh_back (e1.trans (e2.trans (e3.trans e4))) hp) (e1.trans (e2.trans (e3.trans (e4.trans e5)))) o hf hl hz⟩
theorem q_newO {C : Addr} {te : TE} {σ : L2.St} {H : Hp} {n : Int} {fs : List (Tp Int)} {u : TS} {D : Ends} {i : Nat} (h : NewOrd K C te σ H n fs) (k : ∀ r l H', H r = none → H l = none → Ex H H' → OrdAt K C H' r l n fs → u D (σ.set i (some (.ref r))) H') : tSeq (tAsg te (gName i)) u D σ H := h H (Ex.refl H) _ k
theorem er_newfld (T : Txt P K mg a) {te : TE} {σ : L2.St} {H : Hp} {n : Int} {fs : List (Tp Int)} (h : NewOrd K a.C_Orders te σ H n fs) : ER K (tFld K te "facts") σ H (sset 64 fs) := fun H1 e1 Q q => h H1 e1 _ fun r l H2 hr hl e2 at_ => by
  obtain ⟨⟨dx, h1⟩, h2⟩ := at_
  exact ⟨r, a.C_Orders, dx, _, .ref l, rfl, h1, T.cl_Orders, T.na_Orders_facts, rfl, q _ H2 e2 h2.rep⟩
theorem OrdAt.cut {C : Addr} {H : Hp} {r l q : Addr} {n : Int} {fs : List (Tp Int)} {ws : List V} (h : OrdAt K C H r l n fs) (hq : H q = some (.lst ws)) (ne : q ≠ l) : OrdAt K C (Z.cut H q) r l n fs := by
  obtain ⟨⟨dx, h1⟩, h2⟩ := h
  exact ⟨⟨dx, by rw [cut_ne (fun z => by rw [z, hq] at h1; cases h1)]; exact h1⟩, h2.cut hq ne⟩
theorem OrdAt.ty (T : Txt P K mg a) {G H : Hp} {r l : Addr} {n : Int} {fs : List (Tp Int)} (at_ : OrdAt K a.C_Orders G r l n fs) (e : Ex G H) : ∀ H2, Ex H H2 → TyX K H2 (.ref r) (.ref a.C_Orders) := fun H2 e2 => by
  obtain ⟨⟨dx, h1⟩, h2⟩ := at_.mono (e.trans e2)
  exact T.ty_Orders H2 r dx _ h1
theorem er_doors {C : Addr} {E E' : XK} {G H : Hp} {te tx ty ti tn tf : TE} {σ : L2.St} {r l : Addr} {n : Nat} {i : Int} {fs : List (Tp Int)} {x y : List Int} (h : EV K te σ H (.ref r)) (at_ : OrdAt K C G r l n fs) (e : Ex G H) (hx : ER K tx σ H (show Tp Int from x)) (hy : ER K ty σ H (show Tp Int from y)) (hi : ER K ti σ H i) (hn : ER K tn σ H (n : Int)) (hf : ER K tf σ H fs)
    (gf : Good n fs) (hz : fs.length ≤ 50000) (h60 : n ≤ 60) (lx : x.length = n) (ly : y.length = n) (i0 : 0 ≤ i) : ER K (tCall (spDoors K C) [] E (tCons te (tCons (tCall (spSets K) [] E' (tCons tx (tCons ty (tCons ti tNil)))) (tCons tn (tCons tf tNil))))) σ H true := fun H1 e1 Q q =>
  h H1 e1 _ fun H2 e2 => hx H2 (e1.trans e2) _ fun v H3 e3 rv => hy H3 (e1.trans (e2.trans e3)) _ fun u H4 e4 ru => hi.evI H4 (e1.trans (e2.trans (e3.trans e4))) _ fun H5 e5 =>
    ⟨n, v, u, x, y, i, rfl, rv.mono (e4.trans e5), ru.mono e5, lx, ly, h60, i0, fun p xs H6 hp e6 op st => by
      have e16 := e2.trans (e3.trans (e4.trans (e5.trans e6)))
      exact hn.evI H6 (e1.trans e16) _ fun H7 e7 => hf H7 (e1.trans (e16.trans e7)) _ fun uf H8 e8 rf => ⟨r, l, n, 200, n, fs, .ref p, uf, x, xs, rfl, at_.mono (e.trans (e1.trans (e16.trans (e7.trans e8)))), gf, hz, h60, (op.mono (e7.trans e8)).rep, rf, st, h60, fun H9 e9 => q _ H9 (e16.trans (e7.trans (e8.trans e9))) (rep_bool _)⟩⟩
end
set_option Elab.async false
set_option linter.all false
set_option maxRecDepth 100000
set_option maxHeartbeats 1000000
set_option autoImplicit false
open PySem L2 Z
open Evl (Ex)
section
variable {P : Program} {w : World} {K : PySem.W.Frag} {mg : Str → Option Value} {base : Heap} {a : Ad}
theorem ok_law (T : Txt P K mg a) : FnOk P w K mg base CX0 6 a.f_law a.d_law ["script"] (spLaw K) := by
  refine T.F_law.ok sc_law (fun vs H Q E (h : spLaw K vs H Q E) => by obtain ⟨s0, ns, rfl, _⟩ := h; rfl) (fun cdv A outer s H vs Q E hr h => ⟨_, (pss_cons (ps_set (i := 1) sc_law.nd rfl (Or.inl rfl) (pe_call (ok_law_draw T) (hr.mono (by decide)) (by rfl) T.m__law_draw T.F_law_draw.kp T.b_law_draw .nil pass0 (pa_cons (pe_call (ok_law_cell T) (hr.mono (by decide)) (by rfl) T.m__law_cell T.F_law_cell.kp T.b_law_cell .nil pass0 (pa_cons (pv 0) (pa_cons pe_int pa_nil))) (pa_cons (pe_lst (pa_cons pe_int (pa_cons pe_int (pa_cons pe_int (pa_cons pe_int (pa_cons pe_int (pa_cons pe_int (pa_cons pe_int (pa_cons pe_int (pa_cons pe_int (pa_cons pe_int (pa_cons pe_int (pa_cons pe_int pa_nil))))))))))))) pa_nil))))
  (pss_cons (ps_set (i := 2) sc_law.nd rfl (Or.inl rfl) (pe_ix (k_ix_list (K := K) rfl) (pv 1) pe_int (fun _ _ => rfl)))
  (pss_cons (ps_set (i := 3) sc_law.nd rfl (Or.inl rfl) (pe_ix (k_ix_list (K := K) rfl) (pv 1) pe_int (fun _ _ => rfl)))
  (pss_cons (ps_if (pt_cmpR op_eq (pe_ix (k_ix_list (K := K) rfl) (pv 1) pe_int (fun _ _ => rfl)) pe_int (nomark _))
  (pss_cons (ps_set (i := 2) sc_law.nd rfl (Or.inl rfl) (pe_ix (k_ix_list (K := K) rfl) (pv 1) pe_int (fun _ _ => rfl)))
  (pss_one (ps_set (i := 3) sc_law.nd rfl (Or.inl rfl) (pe_ix (k_ix_list (K := K) rfl) (pv 1) pe_int (fun _ _ => rfl)))))
  pss_nil)
  (pss_cons (ps_set (i := 4) sc_law.nd rfl (Or.inl rfl) (pe_call (ok_law_order T) (hr.mono (by decide)) (by rfl) T.m__law_order T.F_law_order.kp T.b_law_order .nil pass0 (pa_cons (pe_call (ok_law_cell T) (hr.mono (by decide)) (by rfl) T.m__law_cell T.F_law_cell.kp T.b_law_cell .nil pass0 (pa_cons (pv 0) (pa_cons pe_int pa_nil))) (pa_cons (pv 2) pa_nil))))
  (pss_cons (ps_set (i := 5) sc_law.nd rfl (Or.inl rfl) (pe_call (ok_law_order T) (hr.mono (by decide)) (by rfl) T.m__law_order T.F_law_order.kp T.b_law_order .nil pass0 (pa_cons (pe_call (ok_law_cell T) (hr.mono (by decide)) (by rfl) T.m__law_cell T.F_law_cell.kp T.b_law_cell .nil pass0 (pa_cons (pv 0) (pa_cons pe_int pa_nil))) (pa_cons (pv 2) pa_nil))))
  (pss_cons (ps_set (i := 6) sc_law.nd rfl (Or.inl rfl) (pe_call (ok_law_facts T) (hr.mono (by decide)) (by rfl) T.m__law_facts T.F_law_facts.kp T.b_law_facts .nil pass0 (pa_cons (pe_call (ok_law_cell T) (hr.mono (by decide)) (by rfl) T.m__law_cell T.F_law_cell.kp T.b_law_cell .nil pass0 (pa_cons (pv 0) (pa_cons pe_int pa_nil))) (pa_cons (pv 3) (pa_cons (pv 4) (pa_cons (pe_cmpR op_ne (pe_ix (k_ix_list (K := K) rfl) (pv 1) pe_int (fun _ _ => rfl)) pe_int (nomark _)) pa_nil))))))
  (pss_cons (ps_set (i := 7) sc_law.nd rfl (Or.inl rfl) (pe_callTy (k_call_list_of (K := K) rfl) (by rfl) T.z_list (by decide +kernel) (pa_cons (pv 6) pa_nil)))
  (pss_cons (ps_set (i := 8) sc_law.nd rfl (Or.inl rfl) (pe_make T.mk_Orders (ok_Ordersw_initw T) (hr.mono (by decide)) (by rfl) T.m_Orders T.b_Ordersw_initw .nil passN (pa_cons (pv 2) (pa_cons (pv 7) pa_nil))))
  (pss_cons (ps_expr (k_pe_bm (K := K) rfl (pe_bm PySem.F.plainAttrs_list PySem.F.slot_list_append PySem.F.type_list_append mt_append (pv 7) (pa_cons (pe_tup (pa_cons (pv 2) (pa_cons (pv 2) pa_nil))) pa_nil))))
  (pss_cons (ps_set (i := 9) sc_law.nd rfl (Or.inl rfl) (pe_lst pa_nil))
  (pss_cons (ps_for PassesOwn.never rfl (k_pi_list (K := K) rfl (pe_callB (k_cr_sortT (K := K) (d := 2) (B := 64) rfl (by decide)) (by rfl) T.z_sorted (by decide +kernel) (pa_cons (pv 6) pa_nil))) (pg_name (i := 10) sc_law.nd rfl (Or.inl rfl))
  (pss_one (ps_if (pt_cmpR (k_op_notInD (K := K) rfl (u65 hr)) (pv 10) (pv 9) (by with_unfolding_all rfl))
  (pss_one (ps_expr (k_pe_bm (K := K) rfl (pe_bm PySem.F.plainAttrs_list PySem.F.slot_list_append PySem.F.type_list_append mt_append (pv 9) (pa_cons (pv 10) pa_nil)))))
  pss_nil)))
  (pss_cons (ps_if (PW.pt (pw_or (pt_not (pt_val (pe_callB (k_call_isi (K := K) rfl) (by rfl) T.z_isinstance (by decide +kernel) (pa_cons (pv 8) (pa_cons (pe_glob (v := .ref a.C_World) (by rfl) T.m_World rfl) pa_nil))))) (pw_or (pt_not (pt_val (pe_call (ok_law_int T) (hr.mono (by decide)) (by rfl) T.m__law_int T.F_law_int.kp T.b_law_int .nil pass0 (pa_cons (k_pe_fld (K := K) rfl (pe_fld (pv 8) (by rfl))) (pa_cons (pv 2) pa_nil))))) (pw_or1 (pt_not (pt_val (pe_call (ok_law_int T) (hr.mono (by decide)) (by rfl) T.m__law_int T.F_law_int.kp T.b_law_int .nil pass0 (pa_cons (k_pe_fld (K := K) rfl (pe_fld (pv 8) (by rfl))) (pa_cons (pv 2) pa_nil)))))))))
  (pss_one (ps_ret pe_bl))
  pss_nil)
  (pss_cons (ps_if (pt_not (pt_val (pe_call (ok_law_equal T) (hr.mono (by decide)) (by rfl) T.m__law_equal T.F_law_equal.kp T.b_law_equal .nil pass0 (pa_cons (k_pe_fld (K := K) rfl (pe_fld (pv 8) (by rfl))) (pa_cons (pv 9) pa_nil)))))
  (pss_one (ps_ret pe_bl))
  pss_nil)
  (pss_cons (ps_if (pt_not (pt_val (pe_call (ok_law_doors_stand T) (hr.mono (by decide)) (by rfl) T.m__law_doors_stand T.F_law_doors_stand.kp T.b_law_doors_stand .nil pass0 (pa_cons (pv 8) (pa_cons (pe_call (ok_law_settings T) (hr.mono (by decide)) (by rfl) T.m__law_settings T.F_law_settings.kp T.b_law_settings .nil pass0 (pa_cons (pv 4) (pa_cons (pv 5) (pa_cons (pe_ix (k_ix_list (K := K) rfl) (pv 1) pe_int (fun _ _ => rfl)) pa_nil)))) (pa_cons (pv 2) (pa_cons (pv 6) pa_nil)))))))
  (pss_one (ps_ret pe_bl))
  pss_nil)
  (pss_cons (ps_if (pt_not (pt_val (pe_call (ok_law_equal T) (hr.mono (by decide)) (by rfl) T.m__law_equal T.F_law_equal.kp T.b_law_equal .nil pass0 (pa_cons (pe_call (ok_unlike_pairs T) (hr.mono (by decide)) (by rfl) T.m_unlike_pairs T.F_unlike_pairs.kp T.b_unlike_pairs .nil pass0 (pa_cons (pv 4) (pa_cons (pv 5) pa_nil))) (pa_cons (pe_call (ok_law_unlike T) (hr.mono (by decide)) (by rfl) T.m__law_unlike T.F_law_unlike.kp T.b_law_unlike .nil pass0 (pa_cons (pv 4) (pa_cons (pv 5) pa_nil))) pa_nil)))))
  (pss_one (ps_ret pe_bl))
  pss_nil)
  (pss_cons (ps_if (pt_not (pt_val (pe_call (ok_law_equal T) (hr.mono (by decide)) (by rfl) T.m__law_equal T.F_law_equal.kp T.b_law_equal .nil pass0 (pa_cons (pe_call (ok_unlike_pairs T) (hr.mono (by decide)) (by rfl) T.m_unlike_pairs T.F_unlike_pairs.kp T.b_unlike_pairs .nil pass0 (pa_cons (k_pe_revT (K := K) rfl (pe_revT (pv 5))) (pa_cons (pv 4) pa_nil))) (pa_cons (pe_call (ok_law_unlike T) (hr.mono (by decide)) (by rfl) T.m__law_unlike T.F_law_unlike.kp T.b_law_unlike .nil pass0 (pa_cons (k_pe_revT (K := K) rfl (pe_revT (pv 5))) (pa_cons (pv 4) pa_nil))) pa_nil)))))
  (pss_one (ps_ret pe_bl))
  pss_nil)
  (pss_cons (ps_if (pt_not (pt_val (pe_call (ok_law_equal T) (hr.mono (by decide)) (by rfl) T.m__law_equal T.F_law_equal.kp T.b_law_equal .nil pass0 (pa_cons (pe_call (ok_unlike_pairs T) (hr.mono (by decide)) (by rfl) T.m_unlike_pairs T.F_unlike_pairs.kp T.b_unlike_pairs .nil pass0 (pa_cons (pv 5) (pa_cons (pv 5) pa_nil))) (pa_cons (pe_lst pa_nil) pa_nil)))))
  (pss_one (ps_ret pe_bl))
  pss_nil)
  (pss_cons (ps_set (i := 11) sc_law.nd rfl (Or.inl rfl) (pe_op op_mod (pe_ix (k_ix_list (K := K) rfl) (pv 1) pe_int (fun _ _ => rfl)) (pe_op op_add (pe_callB (call_min2 rfl) (by rfl) T.z_min (by decide +kernel) (pa_cons (pe_callB (k_call_len_seq (K := K) rfl) (by rfl) T.z_len (by decide +kernel) (pa_cons (pv 6) pa_nil)) (pa_cons pe_int pa_nil))) pe_int)))
  (pss_cons (ps_set (i := 12) sc_law.nd rfl (Or.inl rfl) (pe_op op_cat (pe_op op_cat (pe_slice (k_sl_list (K := K) rfl) (pv 6) po_none (po_some (pv 11))) (pe_lst (pa_cons (pe_call (ok_law_wrong_fact T) (hr.mono (by decide)) (by rfl) T.m__law_wrong_fact T.F_law_wrong_fact.kp T.b_law_wrong_fact .nil pass0 (pa_cons (pv 2) (pa_cons (pe_ix (k_ix_list (K := K) rfl) (pv 1) pe_int (fun _ _ => rfl)) (pa_cons (pe_op op_mod (pe_ix (k_ix_list (K := K) rfl) (pv 1) pe_int (fun _ _ => rfl)) (pe_callB (call_max2 rfl) (by rfl) T.z_max (by decide +kernel) (pa_cons pe_int (pa_cons (pv 2) pa_nil)))) pa_nil)))) pa_nil))) (pe_slice (k_sl_list (K := K) rfl) (pv 6) (po_some (pv 11)) (po_some pe_int))))
  (pss_cons (ps_if (pt_cmpR op_eq (pe_ix (k_ix_list (K := K) rfl) (pv 1) pe_int (fun _ _ => rfl)) pe_int (nomark _))
  (pss_one (ps_expr (k_pe_bm (K := K) rfl (pe_bm PySem.F.plainAttrs_list PySem.F.slot_list_append PySem.F.type_list_append mt_append (pv 12) (pa_cons (pe_tup (pa_cons (pv 2) (pa_cons (pv 2) pa_nil))) pa_nil)))))
  pss_nil)
  (pss_cons (ps_if (pt_not (pt_val (pe_call (ok_law_refused T) (hr.mono (by decide)) (by rfl) T.m__law_refused T.F_law_refused.kp T.b_law_refused .nil pass0 (pa_cons (pv 2) (pa_cons (pv 12) (pa_cons (pv 11) pa_nil))))))
  (pss_one (ps_ret pe_bl))
  pss_nil)
  (pss_cons (ps_if (PW.pt (pw_or (pt_not (pt_val (pe_call (ok_law_refused T) (hr.mono (by decide)) (by rfl) T.m__law_refused T.F_law_refused.kp T.b_law_refused .nil pass0 (pa_cons (pe_op op_sub (pe_un un_neg pe_int) (pe_op op_mod (pe_ix (k_ix_list (K := K) rfl) (pv 1) pe_int (fun _ _ => rfl)) pe_int)) (pa_cons (pv 6) (pa_cons (pe_un un_neg pe_int) pa_nil)))))) (pw_or1 (pt_not (pt_val (pe_call (ok_law_refused T) (hr.mono (by decide)) (by rfl) T.m__law_refused T.F_law_refused.kp T.b_law_refused .nil pass0 (pa_cons (pe_op op_add pe_int (pe_op op_mod (pe_ix (k_ix_list (K := K) rfl) (pv 1) pe_int (fun _ _ => rfl)) pe_int)) (pa_cons (pv 12) (pa_cons (pe_un un_neg pe_int) pa_nil)))))))))
  (pss_one (ps_ret pe_bl))
  pss_nil)
  (pss_cons (ps_if (pt_cmpR op_lt (pv 2) pe_int (nomark _))
  (pss_one (ps_ret (pe_call (ok_law_refused T) (hr.mono (by decide)) (by rfl) T.m__law_refused T.F_law_refused.kp T.b_law_refused .nil pass0 (pa_cons (pv 2) (pa_cons (pe_op op_rep (pe_lst (pa_cons (pe_tup (pa_cons pe_int (pa_cons pe_int pa_nil))) pa_nil)) pe_int) (pa_cons (pe_un un_neg pe_int) pa_nil))))))
  pss_nil)
  (pss_cons (ps_set (i := 13) sc_law.nd rfl (Or.inl rfl) (pe_tup (pa_cons (pe_ix (k_ix_tup (K := K) rfl) (pv 4) pe_int (fun _ _ => rfl)) (pa_cons (pe_ix (k_ix_tup (K := K) rfl) (pv 4) pe_int (fun _ _ => rfl)) pa_nil))))
  (pss_cons (ps_if (pt_not (pt_val (pe_call (ok_law_equal T) (hr.mono (by decide)) (by rfl) T.m__law_equal T.F_law_equal.kp T.b_law_equal .nil pass0 (pa_cons (k_pe_fld (K := K) rfl (pe_fld (pe_make T.mk_Orders (ok_Ordersw_initw T) (hr.mono (by decide)) (by rfl) T.m_Orders T.b_Ordersw_initw .nil passN (pa_cons (pv 2) (pa_cons (pe_op op_rep (pe_lst (pa_cons (pv 13) pa_nil)) pe_int) pa_nil))) (by rfl))) (pa_cons (pe_lst (pa_cons (pv 13) pa_nil)) pa_nil)))))
  (pss_one (ps_ret pe_bl))
  pss_nil)
  (pss_one (ps_ret (pe_call (ok_law_refused T) (hr.mono (by decide)) (by rfl) T.m__law_refused T.F_law_refused.kp T.b_law_refused .nil pass0 (pa_cons (pv 2) (pa_cons (pe_op op_rep (pe_lst (pa_cons (pv 13) pa_nil)) pe_int) (pa_cons (pe_un un_neg pe_int) pa_nil)))))))))))))))))))))))))))))))), ?_⟩)
  obtain ⟨s0, ns, rfl, sq, hn, q⟩ := h
  have rs : Rep K H (.ref s0) ns := rep_list sq (Reps.int_map ns)
  obtain ⟨bs, hbs⟩ : ∃ bs : List Int, bs = [8, 6, 7, 3, 10, 37, 1000, 1000, 5, 2, 9, 37] := ⟨_, rfl⟩
  obtain ⟨c0, hc0⟩ : ∃ c, c = cell ns 0 := ⟨_, rfl⟩
  obtain ⟨d0, a0, l0, u0⟩ : ∃ x, atI (drw c0 bs) (0 : Int) = some x ∧ 0 ≤ x ∧ x < 8 := draw_at (i := 0) (by rw [hbs]; rfl) (by decide)
  obtain ⟨d1, a1, l1, u1⟩ : ∃ x, atI (drw c0 bs) (1 : Int) = some x ∧ 0 ≤ x ∧ x < 6 := draw_at (i := 1) (by rw [hbs]; rfl) (by decide)
  obtain ⟨d2, a2, l2, u2⟩ : ∃ x, atI (drw c0 bs) (2 : Int) = some x ∧ 0 ≤ x ∧ x < 7 := draw_at (i := 2) (by rw [hbs]; rfl) (by decide)
  obtain ⟨d3, a3, l3, u3⟩ : ∃ x, atI (drw c0 bs) (3 : Int) = some x ∧ 0 ≤ x ∧ x < 3 := draw_at (i := 3) (by rw [hbs]; rfl) (by decide)
  obtain ⟨d4, a4, l4, u4⟩ : ∃ x, atI (drw c0 bs) (4 : Int) = some x ∧ 0 ≤ x ∧ x < 10 := draw_at (i := 4) (by rw [hbs]; rfl) (by decide)
  obtain ⟨d5, a5, l5, u5⟩ : ∃ x, atI (drw c0 bs) (5 : Int) = some x ∧ 0 ≤ x ∧ x < 37 := draw_at (i := 5) (by rw [hbs]; rfl) (by decide)
  obtain ⟨d6, a6, l6, u6⟩ : ∃ x, atI (drw c0 bs) (6 : Int) = some x ∧ 0 ≤ x ∧ x < 1000 := draw_at (i := 6) (by rw [hbs]; rfl) (by decide)
  obtain ⟨d7, a7, l7, u7⟩ : ∃ x, atI (drw c0 bs) (7 : Int) = some x ∧ 0 ≤ x ∧ x < 1000 := draw_at (i := 7) (by rw [hbs]; rfl) (by decide)
  obtain ⟨d8, a8, l8, u8⟩ : ∃ x, atI (drw c0 bs) (8 : Int) = some x ∧ 0 ≤ x ∧ x < 5 := draw_at (i := 8) (by rw [hbs]; rfl) (by decide)
  obtain ⟨d9, a9, l9, u9⟩ : ∃ x, atI (drw c0 bs) (9 : Int) = some x ∧ 0 ≤ x ∧ x < 2 := draw_at (i := 9) (by rw [hbs]; rfl) (by decide)
  obtain ⟨d10, a10, l10, u10⟩ : ∃ x, atI (drw c0 bs) (10 : Int) = some x ∧ 0 ≤ x ∧ x < 9 := draw_at (i := 10) (by rw [hbs]; rfl) (by decide)
  obtain ⟨d11, a11, l11, u11⟩ : ∃ x, atI (drw c0 bs) (11 : Int) = some x ∧ 0 ≤ x ∧ x < 37 := draw_at (i := 11) (by rw [hbs]; rfl) (by decide)
  refine q_setL (K := K) (xs := drw c0 bs) ?_ fun ps H1 hps e1 os => ?_
  · rw [hc0, hbs]
    exact el_c2 (x := cell ns 0) (y := [8, 6, 7, 3, 10, 37, 1000, 1000, 5, 2, 9, 37]) (er_c2 (x := ns) (y := (0 : Int)) (er_var rfl rs (Ex.refl _)) er_int (by decide)) (EL.er (el_lst (by walk_at "ev"))) (by decide)
  clear hbs hc0
  refine q_setI (K := K) (x := d1) (by walk_at "ev") fun H2 e2 => ?_
  refine q_setI (K := K) (x := d2) (by walk_at "ev") fun H3 e3 => ?_
  have e13 : Ex H1 H3 := e2.trans e3
  obtain ⟨n1, hn1⟩ : ∃ n : Nat, (n : Int) = d1 := ⟨d1.toNat, by omega⟩
  obtain ⟨n2, hn2⟩ : ∃ n : Nat, (n : Int) = d2 := ⟨d2.toNat, by omega⟩
  obtain ⟨n4, hn4⟩ : ∃ n : Nat, (n : Int) = d4 := ⟨d4.toNat, by omega⟩
  obtain ⟨n5, hn5⟩ : ∃ n : Nat, (n : Int) = d5 := ⟨d5.toNat, by omega⟩
  refine q_ifJ (K := K) (b := decide (d0 = 1)) (J := fun σ' H' => ∃ n m : Nat, σ' = [some (.ref s0), some (.ref ps), some (.int n), some (.int m), none, none, none, none, none, none, none, none, none, none] ∧ n ≤ 9 ∧ m ≤ 36 ∧ Ex H1 H')
    ?_ (by walk_at "ev") (fun kk hb H4 e4 => ?_) (fun kk hb H4 e4 => kk _ _ ⟨n1, n2, by rw [hn1, hn2]; rfl, by omega, by omega, e13.trans e4⟩)
  rotate_left
  · have e14 := e13.trans e4
    refine q_setI (K := K) (x := d4) (by walk_at "ev") fun H5 e5 => ?_
    have e15 := e14.trans e5
    refine s_setI (K := K) (x := d5) (by walk_at "ev") fun H6 e6 => ?_
    exact kk _ _ ⟨n4, n5, by rw [hn4, hn5]; rfl, by omega, by omega, e15.trans e6⟩
  rintro σ' HB ⟨n, m, rfl, hn9, hm36, e1B⟩
  have eB : Ex H HB := e1.trans e1B
  have cl : ∀ {σ : L2.St} {G : Hp} {k : Int} {E : XK}, σ[0]? = some (some (.ref s0)) → Ex H G → 0 ≤ k → ER K (tCall (spCell K) [] E (tCons (tVar 0) (tCons (tC (.int k)) tNil))) σ G (cell ns k) := fun h e hk => er_c2 (x := ns) (er_var h rs e) er_int hk
  refine q_order (K := K) (n := n) (cl rfl eB (by decide)) (er_vint rfl) (by omega) fun x vx H4 ox e4 rx => ?_
  refine q_order (K := K) (n := n) (cl rfl (eB.trans e4) (by decide)) (er_vint rfl) (by omega) fun y vy H5 oy e5 ry => ?_
  have eB5 := eB.trans (e4.trans e5)
  have e1_5 : Ex H1 H5 := e1B.trans (e4.trans e5)
  have rx5 := rx.mono e5
  refine q_facts (K := K) (m := m) (n := n) (x := x) (b := !decide (d3 = 0)) (cl rfl eB5 (by decide)) (er_vint rfl) (er_var rfl rx5 (Ex.refl _)) (by walk_at "ev") ox (by omega) (by omega) fun pf fs H6 hpf e6 of hF hfl hf0 => ?_
  have good := hF.good
  have two := hF.two
  have rows := facts_rows hF (by omega)
  refine q_setL (K := K) (xs := fs) (el_list (er_own rfl of (Ex.refl _))) fun pg H7 hpg e7 og => ?_
  refine q_newO (K := K) (C := a.C_Orders) (n := (n : Int)) (fs := fs) (new_ord (N := a.C_BadWorld) (er_vint rfl) (er_own rfl og (Ex.refl _)) two (by omega) (facts_bad hF hn9 (by omega))) fun r l H8 hr hl e8 at8 => ?_
  have og8 := og.mono e8
  have ngl : pg ≠ l := og.ne hl
  refine q_app (K := K) (α := Tp Int) (l := 7) rfl og8 (x := (show Tp Int from [(n : Int), (n : Int)])) (er_tup (ea_cons (er_vint rfl) (ea_cons (er_vint rfl) ea_nil))) (by omega) fun H9 k9 _ o9 => ?_
  obtain ⟨w8, hw8⟩ := og8.at
  have at9 : OrdAt K a.C_Orders H9 r l n fs := (at8.cut hw8 ngl).mono (k9 _ cut_ex cut_same)
  have e6_9 : Ex H6 H9 := k9 H6 (e7.trans e8) hpg
  have of9 := of.mono e6_9
  have rx9 := rx5.mono (e6.trans e6_9)
  have ry9 := ry.mono (e6.trans e6_9)
  have os9 := os.mono (e1_5.trans (e6.trans e6_9))
  clear o9 k9 w8 hw8 og og8 at8
  refine q_setL (K := K) (α := Tp Int) (xs := []) (el_lst ea_nil) fun pk H10 hpk e10 ok => ?_
  have nfk : pf ≠ pk := of9.ne hpk
  refine q_forL (K := K) (xs := srtK (codeT 64) fs) (el_sortU (d := 2) (er_own rfl of9 e10) (by omega) rows) fun pz H11 hpz e11 oz => ?_
  have nkz : pk ≠ pz := ok.ne hpz
  have ok11 := ok.mono e11
  obtain ⟨w11, hw11⟩ := ok11.at
  refine ⟨Z.cut H11 pk, fun i σ' H' => ∃ o10, σ' = [some (.ref s0), some (.ref ps), some (.int n), some (.int m), some vx, some vy, some (.ref pf), some (.ref pg), some (.ref r), some (.ref pk), o10, none, none, none] ∧ Ex H9 H' ∧ Z.Own K H' pk (((srtK (codeT 64) fs).take i).foldl ddStep []), cut_ex, oz.cut hw11 nkz, ⟨none, rfl, e10.trans e11, ok11⟩, ?_, ?_⟩
  · rintro i t v σ' H12 hi e12 rt ⟨o10, rfl, e9_12, o⟩
    have hin : i < fs.length := by
      have := (List.getElem?_eq_some_iff.mp hi).1
      rw [srtK_len] at this
      exact this
    have hll := dd_len ((srtK (codeT 64) fs).take i) []
    rw [List.length_take, List.length_nil] at hll
    have ht : (srtK (codeT 64) fs).take (i + 1) = (srtK (codeT 64) fs).take i ++ [t] := take_succ_get hi
    have hfold : ((srtK (codeT 64) fs).take (i + 1)).foldl ddStep [] = ddStep (((srtK (codeT 64) fs).take i).foldl ddStep []) t := by rw [ht, List.foldl_append]; rfl
    refine s_if (K := K) (b := !decide (t ∈ ((srtK (codeT 64) fs).take i).foldl ddStep [])) (et_test (er_notInD (x := t) (xs := ((srtK (codeT 64) fs).take i).foldl ddStep []) (er_var rfl (rt.mono e12) (Ex.refl _)) (er_own rfl o (Ex.refl _)))) (fun hb H13 e13 => ?_) (fun hb H13 e13 => ?_)
    · have hb : ¬ t ∈ ((srtK (codeT 64) fs).take i).foldl ddStep [] := of_decide_eq_false (Bool.not_eq_true' _ ▸ hb)
      refine s_app (K := K) (α := Tp Int) (l := 9) rfl (o.mono e13) (x := t) (er_var rfl (rt.mono (e12.trans e13)) (Ex.refl _)) (by omega) fun H14 k14 _ o14 => ⟨k14 _ (e12.trans e13) cut_same, _, rfl, k14 H9 (e9_12.trans e13) hpk, ?_⟩
      rw [hfold, show ddStep (((srtK (codeT 64) fs).take i).foldl ddStep []) t = _ from if_neg hb]
      exact o14
    · have hb : t ∈ ((srtK (codeT 64) fs).take i).foldl ddStep [] := of_decide_eq_true (Bool.not_eq_false' _ ▸ hb)
      refine ⟨e12.trans e13, _, rfl, e9_12.trans e13, ?_⟩
      rw [hfold, show ddStep (((srtK (codeT 64) fs).take i).foldl ddStep []) t = _ from if_pos hb]
      exact o.mono e13
  rintro σ' H12 e12 ⟨o10, rfl, e9_12, o⟩
  rw [List.take_length] at o
  have okp : Z.Own K H12 pk (sset 64 fs) := o
  clear o
  have at12 := at9.mono e9_12
  have of12 := of9.mono e9_12
  have rx12 := rx9.mono e9_12
  have ry12 := ry9.mono e9_12
  have os12 := os9.mono e9_12
  clear at9 of9 rx9 ry9 os9 rx5 rx ry of os hpk hpz nkz nfk e12 hw11 ok11 ok oz
  have ss := sset_small hF (by omega)
  have lx := ox.len
  have ly := oy.len
  have bx : ∀ t, t ∈ x → 0 ≤ t ∧ t < x.length := fun t ht => by have := ox.bd ht; rw [lx]; exact this
  have by' : ∀ t, t ∈ y → 0 ≤ t ∧ t < y.length := fun t ht => by have := oy.bd ht; rw [ly]; exact this
  refine q_ifF (K := K) (et_orU (et_not (et_B (er_isiO (ev_var rfl) (OrdAt.ty T at12 (Ex.refl _)) (.own _) T.kit_Orders_World))) (et_orU (et_not (et_B (ER.is (er_c2 (x := (n : Int)) (y := (n : Int)) (OrdAt.fld T (ev_var rfl) at12 (Ex.refl _)).2.2 (er_vint rfl) trivial) (decide_eq_true rfl)))) (et_not (et_B (ER.is (er_c2 (x := (n : Int)) (y := (n : Int)) (OrdAt.fld T (ev_var rfl) at12 (Ex.refl _)).1 (er_vint rfl) trivial) (decide_eq_true rfl)))))) rfl fun H13 e13 => ?_
  refine q_ifF (K := K) (et_not (et_B (er_c2 (x := sset 64 fs) (y := sset 64 fs) (EM.er (OrdAt.fld T (ev_var rfl) at12 e13).2.1) (er_own rfl okp e13) ⟨rfl, ss⟩))) rfl fun H14 e14 => ?_
  have e12 := e13.trans e14
  refine q_ifF (K := K) (et_not (et_B (er_doors (x := x) (y := y) (i := d6) (ev_var rfl) at12 e12 (er_var rfl rx12 e12) (er_var rfl ry12 e12) (er_ixL (er_own rfl os12 e12) er_int a6) (er_vint rfl) (er_own rfl of12 e12) good (by omega) (by omega) lx ly l6))) rfl fun H15 e15 => ?_
  have e12 := e12.trans e15
  have pr : ∀ {σ : L2.St} {G : Hp} {te tu : TE} {E : XK} {x y : List Int}, ER K te σ G (show Tp Int from x) → ER K tu σ G (show Tp Int from y) → x.length = n → y.length = n → (∀ t, t ∈ x → 0 ≤ t ∧ t < (x.length : Int)) → (∀ t, t ∈ y → 0 ≤ t ∧ t < (y.length : Int)) → EL K (tCall (spPairs K) [] E (tCons te (tCons tu tNil))) σ G (pairs x y) :=
    fun {σ G te tu E x y} h1 h2 a b c d => el_c2 (x := (show Tp Int from x)) (y := (show Tp Int from y)) h1 h2 ⟨a.trans b.symm, by show x.length ≤ 200; omega, c, d⟩
  refine q_ifF (K := K) (et_not (et_B (er_c2 (x := pairs x y) (y := pairs x y) (EL.er (pr (er_var rfl rx12 e12) (er_var rfl ry12 e12) lx ly bx by')) (EL.er (pr (er_var rfl rx12 e12) (er_var rfl ry12 e12) lx ly bx by')) ⟨rfl, pairs_small (by omega)⟩))) rfl fun H16 e16 => ?_
  have e12 := e12.trans e16
  have lr : y.reverse.length = n := by rw [List.length_reverse]; exact ly
  have br : ∀ t, t ∈ y.reverse → 0 ≤ t ∧ t < (y.reverse.length : Int) := fun t ht => by
    rw [List.length_reverse]
    exact by' t (List.mem_reverse.mp ht)
  refine q_ifF (K := K) (et_not (et_B (er_c2 (x := pairs y.reverse x) (y := pairs y.reverse x) (EL.er (pr (er_revT (xs := (show Tp Int from y)) (er_var rfl ry12 e12)) (er_var rfl rx12 e12) lr lx br bx)) (EL.er (pr (er_revT (xs := (show Tp Int from y)) (er_var rfl ry12 e12)) (er_var rfl rx12 e12) lr lx br bx)) ⟨rfl, pairs_small (by omega)⟩))) rfl fun H17 e17 => ?_
  have e12 := e12.trans e17
  refine q_ifF (K := K) (et_not (et_B (er_c2 (x := pairs y y) (y := ([] : List (Tp Int))) (EL.er (pr (er_var rfl ry12 e12) (er_var rfl ry12 e12) ly ly by' by')) (EL.er (el_lst ea_nil)) ⟨pairs_self, pairs_small (by omega)⟩))) rfl fun H18 e18 => ?_
  have e12 := e12.trans e18
  have mn : min (fs.length : Int) 34 = ((min fs.length 34 : Nat) : Int) := by omega
  have g0 := Int.emod_nonneg d11 (b := min (fs.length : Int) 34 + 1) (by omega)
  have g1 := Int.emod_lt_of_pos d11 (b := min (fs.length : Int) 34 + 1) (by omega)
  refine q_setI (K := K) (x := d11 % (min (fs.length : Int) 34 + 1)) (er_mod (er_ixL (er_own rfl os12 e12) er_int a11) (er_add (er_min2 (ed_lenL (er_own rfl of12 e12)) er_int) er_int) (by omega)) fun H19 e19 => ?_
  have e12 := e12.trans e19
  obtain ⟨j, hj⟩ : ∃ j : Nat, (j : Int) = d11 % (min (fs.length : Int) 34 + 1) := ⟨(d11 % (min (fs.length : Int) 34 + 1)).toNat, by omega⟩
  rw [← hj] at g0 g1 ⊢
  have hj1 : j ≤ fs.length := by omega
  have hj2 : j ≤ 34 := by omega
  obtain ⟨t, ht⟩ : ∃ t, t = wrongF n d8 (d10 % max 1 (n : Int)) := ⟨_, rfl⟩
  have t2 : List.length t = 2 := by rw [ht]; exact wrongF_two
  have tb : badF n (List.getD (α := Int) t 0 0) (List.getD (α := Int) t 1 0) = true := by
    rw [ht]
    exact wrongF_bad (by omega) (Int.emod_nonneg _ (by omega))
  have c1 : cutD fs none (some (j : Int)) = fs.take j := cut_take hj1
  have c2 : (cutD fs (some (j : Int)) (some 34)).length ≤ fs.length := cutD_le
  refine q_setL (K := K) (xs := wrongs fs t j) (EL.is (el_cat (el_cat (el_sl (er_own rfl of12 e12) eo_none (eo_some (er_vint rfl))) (el_lst (ea_cons (x := t) (ER.is (er_c3 (x := (n : Int)) (y := d8) (z := d10 % max 1 (n : Int)) (er_vint rfl) (er_ixL (er_own rfl os12 e12) er_int a8) (er_mod (er_ixL (er_own rfl os12 e12) er_int a10) (er_max2 er_int (er_vint rfl)) (by omega)) trivial) ht.symm) ea_nil)) ?_) (el_sl (er_own rfl of12 e12) (eo_some (er_vint rfl)) (eo_some er_int)) ?_) ?_) fun pw H20 hpw e20 ow => ?_
  · rw [c1, List.length_take, List.length_singleton]
    omega
  · rw [c1, List.length_append, List.length_take, List.length_singleton]
    omega
  · rw [c1]
    rfl
  have H12w : H12 pw = none := fresh_back e12 hpw
  have wl := wrongs_len (t := t) hj1 hj2
  have wt : Two (wrongs fs t j) := wrongs_two two t2
  refine q_ifJ (K := K) (b := decide (d9 = 1)) (J := fun σ' H' => ∃ ws, σ' = [some (.ref s0), some (.ref ps), some (.int n), some (.int m), some vx, some vy, some (.ref pf), some (.ref pg), some (.ref r), some (.ref pk), o10, some (.int j), some (.ref pw), none] ∧ Ex H12 H' ∧ Z.Own K H' pw ws ∧ Two ws ∧ ws.length ≤ 36 ∧ badAt n ws = some (j : Int))
    ?_ (et_test (er_eqI (er_ixL (er_own rfl os12 (e12.trans e20)) er_int a9) er_int)) (fun kk hb H21 e21 => ?_) (fun kk hb H21 e21 => kk _ _ ⟨_, rfl, e12.trans (e20.trans e21), ow.mono e21, wt, by omega, wrongs_bad hF hn9 (by omega) tb (fun k hk => wrongs_lt hj1 hk) (wrongs_at hj1)⟩)
  rotate_left
  · refine s_app (K := K) (α := Tp Int) (l := 12) rfl (ow.mono e21) (x := (show Tp Int from [(n : Int), (n : Int)])) (er_tup (ea_cons (er_vint rfl) (ea_cons (er_vint rfl) ea_nil))) (by omega) fun H22 k22 _ o22 => kk _ _ ⟨_, rfl, k22 H12 (e12.trans (e20.trans e21)) H12w, o22, fun u hu => ?_, by rw [List.length_append]; show _ + 1 ≤ _; omega, wrongs_bad hF hn9 (by rw [List.length_append]; show _ + 1 ≤ _; omega) tb (fun k hk => ?_) ?_⟩
    · rcases List.mem_append.mp hu with hu | hu
      · exact wt u hu
      · rw [List.mem_singleton.mp hu]
        rfl
    · have : k < (wrongs fs t j).length := by
        have := (List.getElem?_eq_some_iff.mp (wrongs_at (t := t) hj1)).1
        omega
      rw [List.getElem?_append_left this]
      exact wrongs_lt hj1 hk
    · rw [List.getElem?_append_left (List.getElem?_eq_some_iff.mp (wrongs_at (t := t) hj1)).1]
      exact wrongs_at hj1
  clear ow e12 e13 e14 e15 e16 e17 e18 e19 e20
  rintro σ' H21 ⟨ws, rfl, e12, ow, w2, wl, wb⟩
  refine q_ifF (K := K) (et_not (et_B (er_refused (er_vint rfl) (er_own rfl ow (Ex.refl _)) (er_vint rfl) w2 (by omega) wb))) rfl fun H22 e22 => ?_
  have e12 := e12.trans e22
  refine q_ifF (K := K) (et_orU (et_not (et_B (er_refused (k := -1) (er_sub (er_neg er_int) (er_mod (er_ixL (er_own rfl os12 e12) er_int a7) er_int (by decide))) (er_own rfl of12 e12) (er_neg er_int) two (by omega) (bad_many (by omega))))) (et_not (et_B (er_refused (k := -1) (er_add er_int (er_mod (er_ixL (er_own rfl os12 e12) er_int a7) er_int (by decide))) (er_own rfl ow e22) (er_neg er_int) w2 (by omega) (bad_many (by omega)))))) rfl fun H23 e23 => ?_
  have e12 := e12.trans e23
  have rep2 : ∀ {t : Tp Int} {k : Nat}, List.length t = 2 → Two (List.replicate k t) := fun h u hu => by rw [(List.mem_replicate.mp hu).2]; exact h
  refine q_if (K := K) (b := decide ((n : Int) < 2)) (by walk_at "ev") (fun hb H24 e24 => ?_) (fun hb H24 e24 => ?_)
  · refine s_ret (K := K) (x := true) (er_refused (k := -1) (fs := List.replicate 37 (show Tp Int from [(0 : Int), 0])) (er_vint rfl) (EL.er (EL.is (el_rep1 (x := (show Tp Int from [(0 : Int), 0])) (n := 37) (el_lst (ea_cons (er_tup (ea_cons er_int (ea_cons er_int ea_nil))) ea_nil)) er_int (by decide) (by decide)) rfl)) (er_neg er_int) (rep2 rfl) (by rw [List.length_replicate]; decide) (bad_many (by rw [List.length_replicate]; omega))) fun v H25 e25 r25 => ?_
    rw [Rep.bool r25]
    exact q H25
  have h2 : 2 ≤ n := by
    have := of_decide_eq_false hb
    omega
  have e12 := e12.trans e24
  have x0 : atI x (0 : Int) = some (x.getD 0 0) := atI_D (xs := x) (k := 0) (by omega)
  have x1 : atI x (1 : Int) = some (x.getD 1 0) := atI_D (xs := x) (k := 1) (by omega)
  have m0 : x.getD 0 0 ∈ x := by
    rw [List.getD_eq_getElem?_getD, List.getElem?_eq_getElem (by omega)]
    exact List.getElem_mem _
  have m1 : x.getD 1 0 ∈ x := by
    rw [List.getD_eq_getElem?_getD, List.getElem?_eq_getElem (by omega)]
    exact List.getElem_mem _
  have ne01 : x.getD 0 0 ≠ x.getD 1 0 := by
    rw [List.getD_eq_getElem?_getD, List.getD_eq_getElem?_getD, List.getElem?_eq_getElem (by omega), List.getElem?_eq_getElem (by omega)]
    intro z
    have := (List.getElem_inj (h₀ := by omega) (h₁ := by omega) ox.nodup).mp z
    omega
  obtain ⟨pr2, hpr2⟩ : ∃ t : Tp Int, t = (show Tp Int from [x.getD 0 0, x.getD 1 0]) := ⟨_, rfl⟩
  have p2 : List.length pr2 = 2 := by rw [hpr2]; rfl
  refine q_set (K := K) (x := pr2) (ER.is (er_tup (ea_cons (er_ixT (xs := (show Tp Int from x)) (er_var rfl rx12 e12) er_int x0) (ea_cons (er_ixT (xs := (show Tp Int from x)) (er_var rfl rx12 e12) er_int x1) ea_nil))) hpr2.symm) fun vp H25 e25 rp => ?_
  have hF2 : Facts n (List.replicate 36 pr2) := fun u hu => by
    rw [(List.mem_replicate.mp hu).2, hpr2]
    exact ⟨rfl, badF_iff.mpr ⟨ox.bd m0, ox.bd m1, ne01⟩⟩
  refine q_ifF (K := K) (et_not (et_B (er_c2 (x := sset 64 (List.replicate 36 pr2)) (y := [pr2]) (er_newfld T (new_ord (N := a.C_BadWorld) (n := (n : Int)) (er_vint rfl) (EL.er (EL.is (el_rep1 (x := pr2) (n := 36) (el_lst (ea_cons (er_var rfl rp (Ex.refl _)) ea_nil)) er_int (by decide) (by decide)) rfl)) (rep2 p2) (by rw [List.length_replicate]; decide) (facts_bad hF2 hn9 (by rw [List.length_replicate]; decide)))) (EL.er (el_lst (ea_cons (er_var rfl rp (Ex.refl _)) ea_nil))) ⟨sset_rep, sset_small hF2 (by rw [List.length_replicate]; decide)⟩))) rfl fun H26 e26 => ?_
  refine s_ret (K := K) (x := true) (er_refused (k := -1) (fs := List.replicate 37 pr2) (er_vint rfl) (EL.er (EL.is (el_rep1 (x := pr2) (n := 37) (el_lst (ea_cons (er_var rfl rp e26) ea_nil)) er_int (by decide) (by decide)) rfl)) (er_neg er_int) (rep2 p2) (by rw [List.length_replicate]; decide) (bad_many (by rw [List.length_replicate]; omega))) fun v H27 e27 r27 => ?_
  rw [Rep.bool r27]
  exact q H27
end
set_option Elab.async false
set_option linter.all false
set_option maxRecDepth 100000
open PySem L2 Z
theorem fin {P : Program} {w : World} {K : PySem.W.Frag} {mg : Str → Option Value} {fa : Addr} (k : Nat) (law : ∀ {base : Heap} {a : Ad}, Txt P K mg a → FnOk P w K mg base CX0 k a.f_law a.d_law ["script"] (spLaw K)) (hfa : mg "law" = some (.ref fa)) (T : ∃ a, Txt P K mg a) :
    ∃ fd : FuncData, (∀ (s : Shared) (v : Value), BindsTo s fd ⟨[v], []⟩ [("script", v)]) ∧ ∀ base : Heap, K.In base → base.Ns mainGlobals mg → FnOk P w K mg base CX0 k fa fd ["script"] (spLaw K) := by
  obtain ⟨a, T⟩ := T
  have e := hfa.symm.trans T.m_law
  cases e
  obtain ⟨oc, od, kV, doc, pm, an, cdv, ct, osl, e, _, _⟩ := T.F_law.ex
  exact ⟨a.d_law, fun s v => by rw [e]; exact .of_eq rfl, fun base _ _ => law T⟩
end Y
open PySem PySem.W PyProof.Rows in
set_option maxRecDepth 100000 in
set_option maxHeartbeats 0 in
theorem PySem.Challenge.cw_everystepstands_k91_orders_by_neighbours_holds : PySem.Challenge.rw_everystepstands_k91_orders_by_neighbours.Holds := by
  w_on; o_law; k_head; (case hw => w_witness2)
  k_fill
  refine Z.walk (k := 6) (l := PySem.Challenge.rw_everystepstands_k91_orders_by_neighbours) rfl (by decide) (by decide) rfl (fun w h Y => PySem.W.kIn_of Y) ?F
  case F =>
    intro w mg fa h KX G hmg
    refine' Y.fin 6 (fun T => Y.ok_law T) hmg ⟨_, Y.all_mk KX G ?z_ValueError ?z_all ?z_any ?z_bool ?z_enumerate ?z_int ?z_isinstance ?z_len ?z_list ?z_max ?z_min ?z_range ?z_set ?z_sorted ?z_super ?z_tuple ?m_MOST_THINGS ?m_MOST_FACTS ?m_StepError ?hg_StepError ?hk_StepError ?hs_StepError ?hd_StepError ?ha_StepError ?hm_StepError ?m_BadWeb ?hg_BadWeb ?hk_BadWeb ?hs_BadWeb ?hd_BadWeb ?ha_BadWeb ?hm_BadWeb ?x_BadWebw_initw ?rv_BadWebw_initw ?i_BadWebw_initw ?l_BadWebw_initw ?cd_BadWebw_initw ?kc_BadWebw_initw ?kv_BadWebw_initw ?kf_BadWebw_initw ?cc_BadWebw_initw ?kp_BadWebw_initw ?ti_BadWebw_initw ?ic_BadWebw_initw ?sa_BadWebw_initw ?ty_BadWebw_initw ?ke_BadWebw_initw ?su_BadWebw_initw ?ve_BadWebw_initw ?mr_BadWebw_initw ?nf_BadWeb_index ?m_BadWorld ?hg_BadWorld ?hk_BadWorld ?hs_BadWorld ?hd_BadWorld ?ha_BadWorld ?hm_BadWorld ?x_BadWorldw_initw ?rv_BadWorldw_initw ?i_BadWorldw_initw ?l_BadWorldw_initw ?cd_BadWorldw_initw ?kc_BadWorldw_initw ?kv_BadWorldw_initw ?kf_BadWorldw_initw ?cc_BadWorldw_initw ?kp_BadWorldw_initw ?ti_BadWorldw_initw ?ic_BadWorldw_initw ?sa_BadWorldw_initw ?ty_BadWorldw_initw ?ke_BadWorldw_initw ?su_BadWorldw_initw ?ve_BadWorldw_initw ?mr_BadWorldw_initw ?nf_BadWorld_index ?m_World ?pg_World ?hd_World ?po_World ?sa_World ?ha_World ?hm_World ?na_World_size ?m_Orders ?pg_Orders ?hd_Orders ?po_Orders ?sa_Orders ?ha_Orders ?hm_Orders ?na_Orders_count ?na_Orders_facts ?na_Orders_size ?m_unlike ?l_unlike ?c_unlike ?k_unlike ?me_Worldw_initw ?l_Worldw_initw ?c_Worldw_initw ?k_Worldw_initw ?fn_Worldw_initw ?mk_World ?kc_World ?me_World_is_answer ?l_World_is_answer ?c_World_is_answer ?k_World_is_answer ?fn_World_is_answer ?me_World_is_change ?l_World_is_change ?c_World_is_change ?k_World_is_change ?fn_World_is_change ?me_World_next_answers ?l_World_next_answers ?c_World_next_answers ?k_World_next_answers ?fn_World_next_answers ?me_World_blocked ?l_World_blocked ?c_World_blocked ?k_World_blocked ?fn_World_blocked ?me_Ordersw_initw ?fn_Ordersw_initw ?mk_Orders ?kc_Orders ?l_Ordersw_initw ?cd_Ordersw_initw ?kd_Ordersw_initw ?kv_Ordersw_initw ?kf_Ordersw_initw ?cc_Ordersw_initw ?kp_Ordersw_initw ?ic_Ordersw_initw ?su_Ordersw_initw ?tb_Ordersw_initw ?mr_Ordersw_initw ?fi_Ordersw_initw ?me_Orders_is_answer ?l_Orders_is_answer ?c_Orders_is_answer ?k_Orders_is_answer ?fn_Orders_is_answer ?me_Orders_is_change ?l_Orders_is_change ?c_Orders_is_change ?k_Orders_is_change ?fn_Orders_is_change ?me_Orders_next_answers ?l_Orders_next_answers ?c_Orders_next_answers ?k_Orders_next_answers ?fn_Orders_next_answers ?me_Orders_blocked ?l_Orders_blocked ?c_Orders_blocked ?k_Orders_blocked ?fn_Orders_blocked ?m_spots_of ?l_spots_of ?c_spots_of ?k_spots_of ?m_exchanged ?l_exchanged ?c_exchanged ?k_exchanged ?m_unlike_pairs ?l_unlike_pairs ?c_unlike_pairs ?k_unlike_pairs ?m__law_cell ?l_law_cell ?c_law_cell ?k_law_cell ?m__law_draw ?l_law_draw ?c_law_draw ?k_law_draw ?m__law_int ?l_law_int ?c_law_int ?k_law_int ?m__law_truth ?l_law_truth ?c_law_truth ?k_law_truth ?m__law_equal ?l_law_equal ?c_law_equal ?k_law_equal ?m__law_order ?l_law_order ?c_law_order ?k_law_order ?m__law_spots ?l_law_spots ?c_law_spots ?k_law_spots ?m__law_facts ?l_law_facts ?c_law_facts ?k_law_facts ?m__law_is_order ?l_law_is_order ?c_law_is_order ?k_law_is_order ?m__law_swapped ?l_law_swapped ?c_law_swapped ?k_law_swapped ?m__law_is_change ?l_law_is_change ?c_law_is_change ?k_law_is_change ?m__law_next ?l_law_next ?c_law_next ?k_law_next ?m__law_unlike ?l_law_unlike ?c_law_unlike ?k_law_unlike ?m__law_settings ?l_law_settings ?c_law_settings ?k_law_settings ?m__law_doors_stand ?l_law_doors_stand ?c_law_doors_stand ?k_law_doors_stand ?m__law_refused ?l_law_refused ?c_law_refused ?k_law_refused ?m__law_wrong_fact ?l_law_wrong_fact ?c_law_wrong_fact ?k_law_wrong_fact ?m_law ?l_law ?c_law ?k_law ?hcn ?hct ?hop ?htop ?kit_Orders_World ?kit_BadWorld_StepError ?kit_BadWorld_ValueError ?kit_BadWorld_BadWeb ?exm_BadWorld_BadWorld⟩
    (case z_ValueError => k_is)
    (case z_all => k_is)
    (case z_any => k_is)
    (case z_bool => k_is)
    (case z_enumerate => k_is)
    (case z_int => k_is)
    (case z_isinstance => k_is)
    (case z_len => k_is)
    (case z_list => k_is)
    (case z_max => k_is)
    (case z_min => k_is)
    (case z_range => k_is)
    (case z_set => k_is)
    (case z_sorted => k_is)
    (case z_super => k_is)
    (case z_tuple => k_is)
    (case m_MOST_THINGS => k_is)
    (case m_MOST_FACTS => k_is)
    (case m_StepError => k_is)
    (case hg_StepError => k_is)
    (case hk_StepError => k_is)
    (case hs_StepError => k_is)
    (case hd_StepError => k_is)
    (case ha_StepError => k_is)
    (case hm_StepError => k_is)
    (case m_BadWeb => k_is)
    (case hg_BadWeb => k_is)
    (case hk_BadWeb => k_is)
    (case hs_BadWeb => k_is)
    (case hd_BadWeb => k_is)
    (case ha_BadWeb => k_is)
    (case hm_BadWeb => k_is)
    (case x_BadWebw_initw => k_is)
    (case rv_BadWebw_initw => kernel_rfl)
    (case i_BadWebw_initw => k_is)
    (case l_BadWebw_initw => k_is)
    (case cd_BadWebw_initw => k_is)
    (case kc_BadWebw_initw => k_is)
    (case kv_BadWebw_initw => rfl)
    (case kf_BadWebw_initw => decide +kernel)
    (case cc_BadWebw_initw => k_is)
    (case kp_BadWebw_initw => k_is)
    (case ti_BadWebw_initw => k_is)
    (case ic_BadWebw_initw => k_is)
    (case sa_BadWebw_initw => k_is)
    (case ty_BadWebw_initw => k_is)
    (case ke_BadWebw_initw => k_is)
    (case su_BadWebw_initw => kernel_rfl)
    (case ve_BadWebw_initw => k_is)
    (case mr_BadWebw_initw => k_is)
    (case nf_BadWeb_index => k_is)
    (case m_BadWorld => k_is)
    (case hg_BadWorld => k_is)
    (case hk_BadWorld => k_is)
    (case hs_BadWorld => k_is)
    (case hd_BadWorld => k_is)
    (case ha_BadWorld => k_is)
    (case hm_BadWorld => k_is)
    (case x_BadWorldw_initw => k_is)
    (case rv_BadWorldw_initw => kernel_rfl)
    (case i_BadWorldw_initw => k_is)
    (case l_BadWorldw_initw => k_is)
    (case cd_BadWorldw_initw => k_is)
    (case kc_BadWorldw_initw => k_is)
    (case kv_BadWorldw_initw => rfl)
    (case kf_BadWorldw_initw => decide +kernel)
    (case cc_BadWorldw_initw => k_is)
    (case kp_BadWorldw_initw => k_is)
    (case ti_BadWorldw_initw => k_is)
    (case ic_BadWorldw_initw => k_is)
    (case sa_BadWorldw_initw => k_is)
    (case ty_BadWorldw_initw => k_is)
    (case ke_BadWorldw_initw => k_is)
    (case su_BadWorldw_initw => kernel_rfl)
    (case ve_BadWorldw_initw => k_is)
    (case mr_BadWorldw_initw => k_is)
    (case nf_BadWorld_index => k_is)
    (case m_World => k_is)
    (case pg_World => k_is)
    (case hd_World => k_is)
    (case po_World => k_is)
    (case sa_World => k_is)
    (case ha_World => k_is)
    (case hm_World => k_is)
    (case na_World_size => k_is)
    (case m_Orders => k_is)
    (case pg_Orders => k_is)
    (case hd_Orders => k_is)
    (case po_Orders => k_is)
    (case sa_Orders => k_is)
    (case ha_Orders => k_is)
    (case hm_Orders => k_is)
    (case na_Orders_count => k_is)
    (case na_Orders_facts => k_is)
    (case na_Orders_size => k_is)
    (case m_unlike => k_is)
    (case l_unlike => k_is)
    (case c_unlike => k_is)
    (case k_unlike => k_is)
    (case me_Worldw_initw => k_is)
    (case l_Worldw_initw => k_is)
    (case c_Worldw_initw => k_is)
    (case k_Worldw_initw => k_is)
    (case fn_Worldw_initw => k_is)
    (case mk_World => k_is)
    (case kc_World => k_is)
    (case me_World_is_answer => k_is)
    (case l_World_is_answer => k_is)
    (case c_World_is_answer => k_is)
    (case k_World_is_answer => k_is)
    (case fn_World_is_answer => k_is)
    (case me_World_is_change => k_is)
    (case l_World_is_change => k_is)
    (case c_World_is_change => k_is)
    (case k_World_is_change => k_is)
    (case fn_World_is_change => k_is)
    (case me_World_next_answers => k_is)
    (case l_World_next_answers => k_is)
    (case c_World_next_answers => k_is)
    (case k_World_next_answers => k_is)
    (case fn_World_next_answers => k_is)
    (case me_World_blocked => k_is)
    (case l_World_blocked => k_is)
    (case c_World_blocked => k_is)
    (case k_World_blocked => k_is)
    (case fn_World_blocked => k_is)
    (case me_Ordersw_initw => k_is)
    (case fn_Ordersw_initw => k_is)
    (case mk_Orders => k_is)
    (case kc_Orders => k_is)
    (case l_Ordersw_initw => k_is)
    (case cd_Ordersw_initw => k_is)
    (case kd_Ordersw_initw => k_is)
    (case kv_Ordersw_initw => rfl)
    (case kf_Ordersw_initw => decide +kernel)
    (case cc_Ordersw_initw => k_is)
    (case kp_Ordersw_initw => k_is)
    (case ic_Ordersw_initw => k_is)
    (case su_Ordersw_initw => kernel_rfl)
    (case tb_Ordersw_initw => k_is)
    (case mr_Ordersw_initw => k_is)
    (case fi_Ordersw_initw => k_is)
    (case me_Orders_is_answer => k_is)
    (case l_Orders_is_answer => k_is)
    (case c_Orders_is_answer => k_is)
    (case k_Orders_is_answer => k_is)
    (case fn_Orders_is_answer => k_is)
    (case me_Orders_is_change => k_is)
    (case l_Orders_is_change => k_is)
    (case c_Orders_is_change => k_is)
    (case k_Orders_is_change => k_is)
    (case fn_Orders_is_change => k_is)
    (case me_Orders_next_answers => k_is)
    (case l_Orders_next_answers => k_is)
    (case c_Orders_next_answers => k_is)
    (case k_Orders_next_answers => k_is)
    (case fn_Orders_next_answers => k_is)
    (case me_Orders_blocked => k_is)
    (case l_Orders_blocked => k_is)
    (case c_Orders_blocked => k_is)
    (case k_Orders_blocked => k_is)
    (case fn_Orders_blocked => k_is)
    (case m_spots_of => k_is)
    (case l_spots_of => k_is)
    (case c_spots_of => k_is)
    (case k_spots_of => k_is)
    (case m_exchanged => k_is)
    (case l_exchanged => k_is)
    (case c_exchanged => k_is)
    (case k_exchanged => k_is)
    (case m_unlike_pairs => k_is)
    (case l_unlike_pairs => k_is)
    (case c_unlike_pairs => k_is)
    (case k_unlike_pairs => k_is)
    (case m__law_cell => k_is)
    (case l_law_cell => k_is)
    (case c_law_cell => k_is)
    (case k_law_cell => k_is)
    (case m__law_draw => k_is)
    (case l_law_draw => k_is)
    (case c_law_draw => k_is)
    (case k_law_draw => k_is)
    (case m__law_int => k_is)
    (case l_law_int => k_is)
    (case c_law_int => k_is)
    (case k_law_int => k_is)
    (case m__law_truth => k_is)
    (case l_law_truth => k_is)
    (case c_law_truth => k_is)
    (case k_law_truth => k_is)
    (case m__law_equal => k_is)
    (case l_law_equal => k_is)
    (case c_law_equal => k_is)
    (case k_law_equal => k_is)
    (case m__law_order => k_is)
    (case l_law_order => k_is)
    (case c_law_order => k_is)
    (case k_law_order => k_is)
    (case m__law_spots => k_is)
    (case l_law_spots => k_is)
    (case c_law_spots => k_is)
    (case k_law_spots => k_is)
    (case m__law_facts => k_is)
    (case l_law_facts => k_is)
    (case c_law_facts => k_is)
    (case k_law_facts => k_is)
    (case m__law_is_order => k_is)
    (case l_law_is_order => k_is)
    (case c_law_is_order => k_is)
    (case k_law_is_order => k_is)
    (case m__law_swapped => k_is)
    (case l_law_swapped => k_is)
    (case c_law_swapped => k_is)
    (case k_law_swapped => k_is)
    (case m__law_is_change => k_is)
    (case l_law_is_change => k_is)
    (case c_law_is_change => k_is)
    (case k_law_is_change => k_is)
    (case m__law_next => k_is)
    (case l_law_next => k_is)
    (case c_law_next => k_is)
    (case k_law_next => k_is)
    (case m__law_unlike => k_is)
    (case l_law_unlike => k_is)
    (case c_law_unlike => k_is)
    (case k_law_unlike => k_is)
    (case m__law_settings => k_is)
    (case l_law_settings => k_is)
    (case c_law_settings => k_is)
    (case k_law_settings => k_is)
    (case m__law_doors_stand => k_is)
    (case l_law_doors_stand => k_is)
    (case c_law_doors_stand => k_is)
    (case k_law_doors_stand => k_is)
    (case m__law_refused => k_is)
    (case l_law_refused => k_is)
    (case c_law_refused => k_is)
    (case k_law_refused => k_is)
    (case m__law_wrong_fact => k_is)
    (case l_law_wrong_fact => k_is)
    (case c_law_wrong_fact => k_is)
    (case k_law_wrong_fact => k_is)
    (case m_law => k_is)
    (case l_law => k_is)
    (case c_law => k_is)
    (case k_law => k_is)
    (case hcn => k_is)
    (case hct => k_is)
    (case hop => k_is)
    (case htop => decide +kernel)
    (case kit_Orders_World => kernel_rfl)
    (case kit_BadWorld_StepError => kernel_rfl)
    (case kit_BadWorld_ValueError => kernel_rfl)
    (case kit_BadWorld_BadWeb => kernel_rfl)
    (case exm_BadWorld_BadWorld => kernel_rfl)

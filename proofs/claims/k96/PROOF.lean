import PyProof.Rows.All
import Wide.All
import OpenK.AllK
import Wide.FinOn
import HandS.ForMost
import HandS.Evl
import HandS.TupAny
import HandS.Style
import HandS.IsInst
import HandS.Property
import HandS.ForExc
import HandS.ExcInit
import HandS.ExcField
import HandS.ExcIs
import KE.KExcSuper
import KE.KSuper
import HandS.IterNext
import KE.KExcIs
import KE.KOwnIter
import OpenK.KMeth
import PyProof.FactsSeq
import PySem.Challenge.RW_everystepstands_k96_rows_joined_and_turn
set_option Elab.async false
set_option linter.all false
set_option maxRecDepth 100000
set_option maxHeartbeats 2000000
/-! Z: data (what a value stands for, by PyData), what evaluates to what datum. -/
namespace Z
open PySem L2
open Evl (Ex)
/-! ### data that stand in the heap stay when it grows -/
mutual
theorem dp_mono {K : PySem.W.Frag} {G H : Hp} (e : Ex G H) : ∀ (d : PyData) (v : V), Dp K G v d → Dp K H v d
  | .none, _, h => by cases h; exact .non
  | .bool b, _, h => by cases h; exact .bl b
  | .int i, _, h => by cases h; exact .int i
  | .str x, _, h => by cases h; exact .str x
  | .list ds, _, h => by
    cases h with
    | lst hs ha => exact .lst (Evl.ex_l e hs) (dpa_mono e ds _ ha)
  | .tuple ds, _, h => by
    cases h with
    | tup hs ha => exact .tup (Evl.ex_t e hs) (dpa_mono e ds _ ha)
  | .dict _, _, h => by cases h
theorem dpa_mono {K : PySem.W.Frag} {G H : Hp} (e : Ex G H) : ∀ (ds : List PyData) (vs : List V), DpAll K G vs ds → DpAll K H vs ds
  | [], _, h => by cases h; exact .nil
  | d :: ds, _, h => by
    cases h with
    | cons a b => exact .cons (dp_mono e d _ a) (dpa_mono e ds _ b)
end
mutual
def immut : PyData → Bool
  | .list _ => false
  | .dict _ => false
  | .tuple ds => immuts ds
  | _ => true
def immuts : List PyData → Bool
  | [] => true
  | d :: ds => immut d && immuts ds
end
/-- the tuples of G stand in H -/
def Tups (G H : Hp) : Prop := ∀ a xs, Rd G a (.tup xs) → Rd H a (.tup xs)
mutual
theorem dp_imm {K : PySem.W.Frag} {G H : Hp} (e : Tups G H) : ∀ (d : PyData) (v : V), immut d = true → Dp K G v d → Dp K H v d
  | .none, _, _, h => by cases h; exact .non
  | .bool b, _, _, h => by cases h; exact .bl b
  | .int i, _, _, h => by cases h; exact .int i
  | .str x, _, _, h => by cases h; exact .str x
  | .list ds, _, i, h => by cases i
  | .tuple ds, _, i, h => by
    cases h with
    | tup hs ha =>
      refine .tup ?_ (dpa_imm e ds _ i ha)
      rcases hs with hs | hs
      · exact .inl (e _ _ hs)
      · exact .inr hs
  | .dict _, _, _, h => by cases h
theorem dpa_imm {K : PySem.W.Frag} {G H : Hp} (e : Tups G H) : ∀ (ds : List PyData) (vs : List V), immuts ds = true → DpAll K G vs ds → DpAll K H vs ds
  | [], _, _, h => by cases h; exact .nil
  | d :: ds, _, i, h => by
    have i' : immut d = true ∧ immuts ds = true := by simpa [immuts] using i
    cases h with
    | cons a b => exact .cons (dp_imm e d _ i'.1 a) (dpa_imm e ds _ i'.2 b)
end
theorem Tups.ex {G H : Hp} (e : Ex G H) : Tups G H := fun _ _ h => Evl.ex_rd e h
theorem Tups.trans {G H J : Hp} (e : Tups G H) (f : Tups H J) : Tups G J := fun _ _ h => f _ _ (e _ _ h)
theorem Tups.upd {H : Hp} {p : Addr} {xs : List V} {o : HO} (h : H p = some (.lst xs)) : Tups H (upd H p o) := fun a ys r => by
  rcases r with r | ⟨ob, r⟩
  · refine .inl ?_
    rw [upd_ne (ne_of r h (by intro z; cases z))]
    exact r
  · refine .inr ⟨ob, ?_⟩
    rw [upd_ne (ne_of r h (by intro z; cases z))]
    exact r
theorem Tups.del {H : Hp} {p : Addr} {xs : List V} (h : H p = some (.lst xs)) : Tups H (fun b => if b = p then none else H b) := fun a ys r => by
  rcases r with r | ⟨ob, r⟩
  · exact .inl ((if_neg (ne_of r h (by intro z; cases z))).trans r)
  · exact .inr ⟨ob, (if_neg (ne_of r h (by intro z; cases z))).trans r⟩
theorem _root_.L2.Dp.mono {K : PySem.W.Frag} {G H : Hp} {d : PyData} {v : V} (e : Ex G H) (h : Dp K G v d) : Dp K H v d := dp_mono e d v h
/-! ### types as data -/
/-- a tuple of any length -/
def Tp (α : Type) := List α
class Dat (α : Type) where
  enc : α → PyData
class Flat (α : Type) [Dat α] : Prop where
  imm : ∀ x : α, immut (Dat.enc x) = true
/-- data whose equality is Python's -/
class DatEq (α : Type) [Dat α] [DecidableEq α] : Prop where
  lay : ∀ x : α, (Dat.enc x).canLay0 = true
  eqv : ∀ x y : α, PyData.eqv (Dat.enc x) (Dat.enc y) = decide (x = y)
class Deep (α : Type) [Dat α] (n : outParam Nat) : Prop where
  dep : ∀ x : α, (Dat.enc x).depth ≤ n
open Dat
instance : Dat Unit := ⟨fun _ => .none⟩
instance : Dat Int := ⟨.int⟩
instance : Dat Bool := ⟨.bool⟩
instance : Dat Str := ⟨.str⟩
instance {α} [Dat α] : Dat (List α) := ⟨fun xs => .list (xs.map enc)⟩
instance {α} [Dat α] : Dat (Tp α) := ⟨fun xs => .tuple (List.map enc xs)⟩
instance {α β} [Dat α] [Dat β] : Dat (α × β) := ⟨fun x => .tuple [enc x.1, enc x.2]⟩
instance {α} [DecidableEq α] : DecidableEq (Tp α) := inferInstanceAs (DecidableEq (List α))
instance : Flat Unit := ⟨fun _ => rfl⟩
instance : Flat Int := ⟨fun _ => rfl⟩
instance : Flat Bool := ⟨fun _ => rfl⟩
instance : Flat Str := ⟨fun _ => rfl⟩
theorem immuts_map {α} [Dat α] [Flat α] : ∀ xs : List α, immuts (xs.map enc) = true
  | [] => rfl
  | x :: xs => by
    show (immut (enc x) && immuts (xs.map enc)) = true
    rw [Flat.imm, immuts_map xs] <;> rfl
instance {α} [Dat α] [Flat α] : Flat (Tp α) := ⟨fun xs => immuts_map (α := α) xs⟩
instance {α β} [Dat α] [Dat β] [Flat α] [Flat β] : Flat (α × β) := ⟨fun x => by
  show (immut (enc x.1) && (immut (enc x.2) && true)) = true
  rw [Flat.imm, Flat.imm] <;> rfl⟩
abbrev Rep (K : PySem.W.Frag) {α : Type} [Dat α] (H : Hp) (v : V) (x : α) : Prop := Dp K H v (enc x)
abbrev Reps (K : PySem.W.Frag) {α : Type} [Dat α] (H : Hp) (vs : List V) (xs : List α) : Prop := DpAll K H vs (xs.map enc)
section
variable {K : PySem.W.Frag} {G H : Hp} {v : V} {α β : Type} [Dat α] [Dat β]
theorem Reps.mono {vs : List V} {xs : List α} (e : Ex G H) (h : Reps K G vs xs) : Reps K H vs xs := dpa_mono e _ _ h
theorem _root_.L2.Dp.imm [Flat α] {x : α} (e : Tups G H) (h : Rep K G v x) : Rep K H v x := dp_imm e _ _ (Flat.imm x) h
theorem Reps.imm [Flat α] {vs : List V} {xs : List α} (e : Tups G H) (h : Reps K G vs xs) : Reps K H vs xs := dpa_imm e _ _ (immuts_map xs) h
theorem Rep.int {i : Int} (h : Rep K H v i) : v = .int i := by
  have h' : Dp K H v (.int i) := h
  cases h'; rfl
theorem Rep.bool {b : Bool} (h : Rep K H v b) : v = .bl b := by
  have h' : Dp K H v (.bool b) := h
  cases h'; rfl
theorem Rep.str {b : Str} (h : Rep K H v b) : v = .str b := by
  have h' : Dp K H v (.str b) := h
  cases h'; rfl
theorem Rep.unit {b : Unit} (h : Rep K H v b) : v = .non := by
  have h' : Dp K H v .none := h
  cases h'; rfl
theorem rep_int (i : Int) : Rep K H (.int i) i := Dp.int i
theorem rep_bool (b : Bool) : Rep K H (.bl b) b := Dp.bl b
theorem rep_str (b : Str) : Rep K H (.str b) b := Dp.str b
theorem rep_unit : Rep K H .non () := Dp.non
theorem Rep.list {xs : List α} (h : Rep K H v xs) : ∃ a vs, v = .ref a ∧ SqL K H a vs ∧ Reps K H vs xs := by
  have h' : Dp K H v (.list (xs.map enc)) := h
  cases h' with
  | lst hs ha => exact ⟨_, _, rfl, hs, ha⟩
theorem Rep.tup {xs : Tp α} (h : Rep K H v xs) : ∃ a vs, v = .ref a ∧ SqT K H a vs ∧ Reps K H vs (α := α) xs := by
  have h' : Dp K H v (.tuple (List.map enc xs)) := h
  cases h' with
  | tup hs ha => exact ⟨_, _, rfl, hs, ha⟩
theorem rep_list {xs : List α} {a : Addr} {vs : List V} (h : SqL K H a vs) (r : Reps K H vs xs) : Rep K H (.ref a) xs := Dp.lst h r
theorem rep_tup {xs : Tp α} {a : Addr} {vs : List V} (h : SqT K H a vs) (r : Reps K H vs (α := α) xs) : Rep K H (.ref a) xs := Dp.tup h r
theorem Rep.pair {x : α × β} (h : Rep K H v x) : ∃ a u w, v = .ref a ∧ SqT K H a [u, w] ∧ Rep K H u x.1 ∧ Rep K H w x.2 := by
  have h' : Dp K H v (.tuple [enc x.1, enc x.2]) := h
  cases h' with
  | tup hs ha =>
    cases ha with
    | cons a1 a2 =>
      cases a2 with
      | cons a2 a3 =>
        cases a3
        exact ⟨_, _, _, rfl, hs, a1, a2⟩
theorem rep_pair {x : α} {y : β} {a : Addr} {u w : V} (h : SqT K H a [u, w]) (r : Rep K H u x) (s : Rep K H w y) : Rep K H (.ref a) (x, y) := Dp.tup h (.cons r (.cons s .nil))
theorem DpAll.len {vs : List V} {ds : List PyData} (h : DpAll K H vs ds) : vs.length = ds.length := by
  induction ds generalizing vs with
  | nil => cases h; rfl
  | cons d ds ih =>
    cases h with
    | cons a b => simp [ih b]
theorem Reps.len {vs : List V} {xs : List α} (h : Reps K H vs xs) : vs.length = xs.length := by
  have e := DpAll.len h
  rw [List.length_map] at e
  exact e
theorem reps_nil : Reps K H [] ([] : List α) := DpAll.nil
theorem Reps.cons {v : V} {vs : List V} {x : α} {xs : List α} (h : Rep K H v x) (r : Reps K H vs xs) : Reps K H (v :: vs) (x :: xs) := DpAll.cons h r
theorem Reps.inv {vs : List V} {x : α} {xs : List α} (h : Reps K H vs (x :: xs)) : ∃ v ws, vs = v :: ws ∧ Rep K H v x ∧ Reps K H ws xs := by
  have h' : DpAll K H vs (enc x :: xs.map enc) := h
  cases h' with
  | cons a b => exact ⟨_, _, rfl, a, b⟩
theorem Reps.nilI {vs : List V} (h : Reps K H vs ([] : List α)) : vs = [] := by
  have h' : DpAll K H vs [] := h
  cases h'; rfl
theorem Reps.append : ∀ {xs ys : List α} {vs ws : List V}, Reps K H vs xs → Reps K H ws ys → Reps K H (vs ++ ws) (xs ++ ys)
  | [], _, _, _, h, r => by
    obtain rfl := Reps.nilI h
    exact r
  | x :: xs, ys, vs, ws, h, r => by
    obtain ⟨v, us, rfl, h1, h2⟩ := Reps.inv h
    exact Reps.cons h1 (Reps.append h2 r)
theorem Reps.get : ∀ {xs : List α} {vs : List V} {i : Nat} {x : α}, Reps K H vs xs → xs[i]? = some x → ∃ v, vs[i]? = some v ∧ Rep K H v x
  | [], _, _, _, _, e => by simp at e
  | x :: xs, vs, 0, y, h, e => by
    obtain ⟨v, us, rfl, h1, h2⟩ := Reps.inv h
    simp at e
    subst e
    exact ⟨v, rfl, h1⟩
  | x :: xs, vs, i + 1, y, h, e => by
    obtain ⟨v, us, rfl, h1, h2⟩ := Reps.inv h
    simpa using Reps.get h2 (by simpa using e)
theorem Reps.got : ∀ {xs : List α} {vs : List V} {i : Nat} {v : V}, Reps K H vs xs → vs[i]? = some v → ∃ x, xs[i]? = some x ∧ Rep K H v x
  | [], vs, _, _, h, e => by
    obtain rfl := Reps.nilI h
    simp at e
  | x :: xs, vs, 0, y, h, e => by
    obtain ⟨v, us, rfl, h1, h2⟩ := Reps.inv h
    simp at e
    subst e
    exact ⟨x, rfl, h1⟩
  | x :: xs, vs, i + 1, y, h, e => by
    obtain ⟨v, us, rfl, h1, h2⟩ := Reps.inv h
    simpa using Reps.got h2 (by simpa using e)
theorem Reps.take : ∀ {xs : List α} {vs : List V} (n : Nat), Reps K H vs xs → Reps K H (vs.take n) (xs.take n)
  | xs, vs, 0, h => by simpa using reps_nil
  | [], vs, n + 1, h => by
    obtain rfl := Reps.nilI h
    exact reps_nil
  | x :: xs, vs, n + 1, h => by
    obtain ⟨v, us, rfl, h1, h2⟩ := Reps.inv h
    exact Reps.cons h1 (Reps.take n h2)
theorem Reps.drop : ∀ {xs : List α} {vs : List V} (n : Nat), Reps K H vs xs → Reps K H (vs.drop n) (xs.drop n)
  | xs, vs, 0, h => by simpa using h
  | [], vs, n + 1, h => by
    obtain rfl := Reps.nilI h
    exact reps_nil
  | x :: xs, vs, n + 1, h => by
    obtain ⟨v, us, rfl, h1, h2⟩ := Reps.inv h
    exact Reps.drop n h2
theorem Reps.set : ∀ {xs : List α} {vs : List V} {v : V} {x : α} (n : Nat), Reps K H vs xs → Rep K H v x → Reps K H (vs.set n v) (xs.set n x)
  | [], vs, v, x, n, h, r => by
    obtain rfl := Reps.nilI h
    exact reps_nil
  | y :: xs, vs, v, x, 0, h, r => by
    obtain ⟨v', us, rfl, h1, h2⟩ := Reps.inv h
    exact Reps.cons r h2
  | y :: xs, vs, v, x, n + 1, h, r => by
    obtain ⟨v', us, rfl, h1, h2⟩ := Reps.inv h
    exact Reps.cons h1 (Reps.set n h2 r)
theorem Reps.reverse : ∀ {xs : List α} {vs : List V}, Reps K H vs xs → Reps K H vs.reverse xs.reverse
  | [], vs, h => by
    obtain rfl := Reps.nilI h
    exact reps_nil
  | x :: xs, vs, h => by
    obtain ⟨v, us, rfl, h1, h2⟩ := Reps.inv h
    rw [List.reverse_cons, List.reverse_cons]
    exact Reps.append (Reps.reverse h2) (Reps.cons h1 reps_nil)
theorem Reps.ints : ∀ {xs : List Int} {vs : List V}, Reps K H vs xs → vs = xs.map V.int
  | [], vs, h => by obtain rfl := Reps.nilI h; rfl
  | x :: xs, vs, h => by
    obtain ⟨v, us, rfl, h1, h2⟩ := Reps.inv h
    rw [h1.int, Reps.ints h2]
    rfl
theorem reps_ints : ∀ (xs : List Int), Reps K H (xs.map V.int) xs
  | [] => reps_nil
  | x :: xs => Reps.cons (rep_int x) (reps_ints xs)
theorem Reps.bools : ∀ {xs : List Bool} {vs : List V}, Reps K H vs xs → vs = xs.map V.bl
  | [], vs, h => by obtain rfl := Reps.nilI h; rfl
  | x :: xs, vs, h => by
    obtain ⟨v, us, rfl, h1, h2⟩ := Reps.inv h
    rw [h1.bool, Reps.bools h2]
    rfl
theorem Reps.strs : ∀ {xs : List Str} {vs : List V}, Reps K H vs xs → vs = xs.map V.str
  | [], vs, h => by obtain rfl := Reps.nilI h; rfl
  | x :: xs, vs, h => by
    obtain ⟨v, us, rfl, h1, h2⟩ := Reps.inv h
    rw [h1.str, Reps.strs h2]
    rfl
end
end Z
set_option Elab.async false
set_option linter.all false
set_option maxRecDepth 100000
set_option maxHeartbeats 2000000
namespace Z
open PySem L2
open Evl (Ex)
open Dat
/-- H without p -/
def cut (H : Hp) (p : Addr) : Hp := fun b => if b = p then none else H b
theorem cut_ne {H : Hp} {p b : Addr} (h : b ≠ p) : cut H p b = H b := if_neg h
theorem cut_same {H : Hp} {p : Addr} : cut H p p = none := if_pos rfl
theorem cut_ex {H : Hp} {p : Addr} : Ex (cut H p) H := fun a o h => by
  by_cases e : a = p
  · rw [e, cut_same] at h; cases h
  · rw [cut_ne e] at h; exact h
theorem cut_mono {G H : Hp} {p : Addr} (e : Ex G H) : Ex (cut G p) (cut H p) := fun a o h => by
  by_cases q : a = p
  · rw [q, cut_same] at h; cases h
  · rw [cut_ne q] at h ⊢; exact e a o h
theorem cut_of {G H : Hp} {p : Addr} (e : Ex G H) (h : G p = none) : Ex G (cut H p) := fun a o q => by
  have : a ≠ p := fun z => by rw [z, h] at q; cases q
  rw [cut_ne this]; exact e a o q
theorem cut_upd {H : Hp} {p : Addr} {o : HO} : cut (upd H p o) p = cut H p := by
  funext b
  by_cases q : b = p
  · rw [q, cut_same, cut_same]
  · rw [cut_ne q, cut_ne q, upd_ne q]
theorem cut_updn {H : Hp} {p : Addr} {o : HO} (h : H p = none) : cut (upd H p o) p = H := by
  funext b
  by_cases q : b = p
  · rw [q, cut_same, h]
  · rw [cut_ne q, upd_ne q]
theorem cut_upd_ne {H : Hp} {p q : Addr} {o : HO} (h : q ≠ p) : cut (upd H q o) p = upd (cut H p) q o := by
  funext b
  by_cases e : b = p
  · rw [e, cut_same, upd_ne (Ne.symm h), cut_same]
  · rw [cut_ne e]
    by_cases e2 : b = q
    · rw [e2, upd_same, upd_same]
    · rw [upd_ne e2, upd_ne e2, cut_ne e]
theorem Tups.cut {H : Hp} {p : Addr} {xs : List V} (h : H p = some (.lst xs)) : Tups H (cut H p) := Tups.del h
theorem fresh_back {H H' : Hp} {p : Addr} (e : Ex H H') (h : H' p = none) : H p = none := Evl.fresh_back e h
theorem ne_new {H : Hp} {p q : Addr} {o : HO} (h : H p = some o) (k : H q = none) : p ≠ q := ne_of_none h k
/-- a list owned: it stands at p, its items lean on nothing at p -/
structure Own (K : PySem.W.Frag) {α : Type} [Dat α] (H : Hp) (p : Addr) (xs : List α) : Prop where
  ex : ∃ vs, H p = some (.lst vs) ∧ Reps K (cut H p) vs xs
section
variable {K : PySem.W.Frag} {α β : Type} [Dat α] [Dat β] {G H H' : Hp} {p : Addr}
theorem Own.mono {xs : List α} (e : Ex G H) (h : Own K G p xs) : Own K H p xs := by
  obtain ⟨vs, h1, h2⟩ := h.ex
  exact ⟨vs, e _ _ h1, h2.mono (cut_mono e)⟩
theorem Own.rep {xs : List α} (h : Own K H p xs) : Rep K H (.ref p) xs := by
  obtain ⟨vs, h1, h2⟩ := h.ex
  exact rep_list (SqL.of h1) (h2.mono cut_ex)
theorem Own.nil : Own K (upd H p (.lst [])) p ([] : List α) := ⟨[], upd_same, reps_nil⟩
theorem Own.there {xs : List α} (h : Own K H p xs) : ∃ vs, H p = some (.lst vs) ∧ vs.length = xs.length := by
  obtain ⟨vs, h1, h2⟩ := h.ex
  exact ⟨vs, h1, h2.len⟩
theorem Own.ne {xs : List α} {q : Addr} (h : Own K H p xs) (hq : H q = none) : p ≠ q := by
  obtain ⟨vs, h1, h2⟩ := h.ex
  exact ne_of_none h1 hq
/-- the heap that knows nothing of p is kept by a change at p -/
theorem ex_mut {o : HO} (e : Ex G H) (h : G p = none) : Ex G (upd H p o) := Evl.Ex.mut e h
end
/-! ### what evaluates to what -/
def ED (K : PySem.W.Frag) (te : TE) (σ : L2.St) (H : Hp) (d : PyData) : Prop := ∀ H1, Ex H H1 → ∀ Q : VK, (∀ v H2, Ex H1 H2 → Dp K H2 v d → Q v H2) → te σ H1 Q
section
variable (K : PySem.W.Frag) {α : Type} [Dat α]
abbrev ER (te : TE) (σ : L2.St) (H : Hp) (x : α) : Prop := ED K te σ H (enc x)
/-- a new list -/
def EL (te : TE) (σ : L2.St) (H : Hp) (xs : List α) : Prop := ∀ H1, Ex H H1 → ∀ Q : VK, (∀ p H2, H1 p = none → Ex H1 H2 → Own K H2 p xs → Q (.ref p) H2) → te σ H1 Q
def ET (_K : PySem.W.Frag) (tt : TT) (σ : L2.St) (H : Hp) (b : Bool) : Prop := ∀ H1, Ex H H1 → ∀ Q : Bool → Hp → Prop, (∀ H2, Ex H1 H2 → Q b H2) → tt σ H1 Q
/-- a value told outright -/
def EV (_K : PySem.W.Frag) (te : TE) (σ : L2.St) (H : Hp) (v : V) : Prop := ∀ H1, Ex H H1 → ∀ Q : VK, (∀ H2, Ex H1 H2 → Q v H2) → te σ H1 Q
def EO (_K : PySem.W.Frag) (to : TO) (σ : L2.St) (H : Hp) (o : Option Int) : Prop := ∀ H1, Ex H H1 → ∀ Q : Option Int → Hp → Prop, (∀ H2, Ex H1 H2 → Q o H2) → to σ H1 Q
end
section
variable {K : PySem.W.Frag} {α β γ δ : Type} [Dat α] [Dat β] [Dat γ] [Dat δ] {σ : L2.St} {G H H' : Hp} {te ta tb tc td : TE} {tt tu : TT}
theorem ED.mono {d : PyData} (e : Ex G H) (h : ED K te σ G d) : ED K te σ H d := fun H1 a Q q => h H1 (e.trans a) Q q
theorem ER.mono {x : α} (e : Ex G H) (h : ER K te σ G x) : ER K te σ H x := fun H1 a Q q => h H1 (e.trans a) Q q
theorem EL.mono {x : List α} (e : Ex G H) (h : EL K te σ G x) : EL K te σ H x := fun H1 a Q q => h H1 (e.trans a) Q q
theorem ET.mono {x : Bool} (e : Ex G H) (h : ET K tt σ G x) : ET K tt σ H x := fun H1 a Q q => h H1 (e.trans a) Q q
theorem EL.er {xs : List α} (h : EL K te σ H xs) : ER K te σ H xs := fun H1 e Q q => h H1 e Q fun p H2 _ e2 o => q _ H2 e2 o.rep
theorem ER.is {x y : α} (h : ER K te σ H x) (e : x = y) : ER K te σ H y := e ▸ h
theorem EL.is {x y : List α} (h : EL K te σ H x) (e : x = y) : EL K te σ H y := e ▸ h
theorem ET.is {x y : Bool} (h : ET K tt σ H x) (e : x = y) : ET K tt σ H y := e ▸ h
theorem EV.er {v : V} {x : α} (h : EV K te σ H v) (r : Rep K H v x) : ER K te σ H x := fun H1 e Q q => h H1 e Q fun H2 e2 => q v H2 e2 (r.mono (e.trans e2))
theorem ER.evI {i : Int} (h : ER K te σ H i) : EV K te σ H (.int i) := fun H1 e Q q => h H1 e Q fun v H2 e2 r => by rw [(Rep.int r)]; exact q H2 e2
theorem ER.evB {i : Bool} (h : ER K te σ H i) : EV K te σ H (.bl i) := fun H1 e Q q => h H1 e Q fun v H2 e2 r => by rw [(Rep.bool r)]; exact q H2 e2
theorem ER.evS {i : Str} (h : ER K te σ H i) : EV K te σ H (.str i) := fun H1 e Q q => h H1 e Q fun v H2 e2 r => by rw [(Rep.str r)]; exact q H2 e2
-- names, constants
theorem ed_var {i : Nat} {v : V} {d : PyData} (h : σ[i]? = some (some v)) (r : Dp K G v d) (e : Ex G H) : ED K (tVar i) σ H d := fun H1 e1 Q q => ⟨v, h, q v H1 (Ex.refl H1) (dp_mono (e.trans e1) _ _ r)⟩
theorem ed_own {i : Nat} {p : Addr} {xs : List α} (h : σ[i]? = some (some (.ref p))) (r : Own K G p xs) (e : Ex G H) : ED K (tVar i) σ H (.list (xs.map enc)) := ed_var h r.rep e
theorem ed_lenL {β : Type} {f : β → PyData} {xs : List β} (ha : ED K ta σ H (.list (xs.map f))) : ED K (tCB (fun xs H Q => ∃ p ys, xs = [.ref p] ∧ (SqL K H p ys ∨ SqT K H p ys) ∧ Q (.int ys.length) H) (tCons ta tNil)) σ H (.int (xs.length : Int)) := fun H1 e Q q =>
  ha H1 e _ fun v H2 e2 r => by
    cases r with
    | lst s r =>
      have e := DpAll.len r
      rw [List.length_map] at e
      exact ⟨_, _, rfl, .inl s, q _ H2 e2 (by rw [← e]; exact .int _)⟩
theorem ed_lenT {β : Type} {f : β → PyData} {xs : List β} (ha : ED K ta σ H (.tuple (xs.map f))) : ED K (tCB (fun xs H Q => ∃ p ys, xs = [.ref p] ∧ (SqL K H p ys ∨ SqT K H p ys) ∧ Q (.int ys.length) H) (tCons ta tNil)) σ H (.int (xs.length : Int)) := fun H1 e Q q =>
  ha H1 e _ fun v H2 e2 r => by
    cases r with
    | tup s r =>
      have e := DpAll.len r
      rw [List.length_map] at e
      exact ⟨_, _, rfl, .inr s, q _ H2 e2 (by rw [← e]; exact .int _)⟩
theorem er_var {i : Nat} {v : V} {x : α} (h : σ[i]? = some (some v)) (r : Rep K G v x) (e : Ex G H) : ER K (tVar i) σ H x := fun H1 e1 Q q => ⟨v, h, q v H1 (Ex.refl H1) (r.mono (e.trans e1))⟩
theorem er_own {i : Nat} {p : Addr} {xs : List α} (h : σ[i]? = some (some (.ref p))) (r : Own K G p xs) (e : Ex G H) : ER K (tVar i) σ H xs := er_var h r.rep e
theorem ev_var {i : Nat} {v : V} (h : σ[i]? = some (some v)) : EV K (tVar i) σ H v := fun H1 e1 Q q => ⟨v, h, q H1 (Ex.refl H1)⟩
theorem er_vint {i : Nat} {n : Int} (h : σ[i]? = some (some (.int n))) : ER K (tVar i) σ H n := er_var h (rep_int n) (Ex.refl H)
theorem er_vbl {i : Nat} {n : Bool} (h : σ[i]? = some (some (.bl n))) : ER K (tVar i) σ H n := er_var h (rep_bool n) (Ex.refl H)
theorem er_vstr {i : Nat} {n : Str} (h : σ[i]? = some (some (.str n))) : ER K (tVar i) σ H n := er_var h (rep_str n) (Ex.refl H)
theorem er_int {n : Int} : ER K (tC (.int n)) σ H n := fun H1 _ Q q => q _ H1 (Ex.refl H1) (rep_int n)
theorem er_bl {n : Bool} : ER K (tC (.bl n)) σ H n := fun H1 _ Q q => q _ H1 (Ex.refl H1) (rep_bool n)
theorem er_str {n : Str} : ER K (tC (.str n)) σ H n := fun H1 _ Q q => q _ H1 (Ex.refl H1) (rep_str n)
theorem er_non : ER K (tC .non) σ H () := fun H1 _ Q q => q _ H1 (Ex.refl H1) rep_unit
theorem ev_c {v : V} : EV K (tC v) σ H v := fun H1 _ Q q => q H1 (Ex.refl H1)
-- two ints
theorem er_I0 {g : Int → Int → Int} {i j : Int} (ha : ER K ta σ H i) (hb : ER K tb σ H j) : ER K (tOp (rI0 fun a b => .int (g a b)) ta tb) σ H (g i j) := fun H1 e Q q =>
  ha.evI H1 e _ fun H2 e2 => hb.evI H2 (e.trans e2) _ fun H3 e3 => ⟨i, j, rfl, rfl, q _ H3 (e2.trans e3) (rep_int _)⟩
theorem er_IB {g : Int → Int → Bool} {i j : Int} (ha : ER K ta σ H i) (hb : ER K tb σ H j) : ER K (tOp (rI0 fun a b => .bl (g a b)) ta tb) σ H (g i j) := fun H1 e Q q =>
  ha.evI H1 e _ fun H2 e2 => hb.evI H2 (e.trans e2) _ fun H3 e3 => ⟨i, j, rfl, rfl, q _ H3 (e2.trans e3) (rep_bool _)⟩
theorem er_I {C : Int → Int → Prop} {g : Int → Int → Int} {i j : Int} (ha : ER K ta σ H i) (hb : ER K tb σ H j) (hc : C i j) : ER K (tOp (rI C fun a b => .int (g a b)) ta tb) σ H (g i j) := fun H1 e Q q =>
  ha.evI H1 e _ fun H2 e2 => hb.evI H2 (e.trans e2) _ fun H3 e3 => ⟨i, j, rfl, rfl, hc, q _ H3 (e2.trans e3) (rep_int _)⟩
theorem er_neg {i : Int} (ha : ER K ta σ H i) : ER K (tUn (rU fun i => .int (-i)) ta) σ H (-i) := fun H1 e Q q =>
  ha.evI H1 e _ fun H2 e2 => ⟨i, rfl, q _ H2 e2 (rep_int _)⟩
theorem er_eqI {i j : Int} (ha : ER K ta σ H i) (hb : ER K tb σ H j) : ER K (tOp rEq ta tb) σ H (decide (i = j)) := fun H1 e Q q =>
  ha.evI H1 e _ fun H2 e2 => hb.evI H2 (e.trans e2) _ fun H3 e3 => ⟨rfl, by
    have : decide (V.int i = V.int j) = decide (i = j) := by simp
    rw [this]; exact q _ H3 (e2.trans e3) (rep_bool _)⟩
theorem er_neI {i j : Int} (ha : ER K ta σ H i) (hb : ER K tb σ H j) : ER K (tOp rNe ta tb) σ H (!decide (i = j)) := fun H1 e Q q =>
  ha.evI H1 e _ fun H2 e2 => hb.evI H2 (e.trans e2) _ fun H3 e3 => ⟨rfl, by
    have : decide (V.int i = V.int j) = decide (i = j) := by simp
    rw [this]; exact q _ H3 (e2.trans e3) (rep_bool _)⟩
theorem er_eqB {i j : Bool} (ha : ER K ta σ H i) (hb : ER K tb σ H j) : ER K (tOp rEq ta tb) σ H (decide (i = j)) := fun H1 e Q q =>
  ha.evB H1 e _ fun H2 e2 => hb.evB H2 (e.trans e2) _ fun H3 e3 => ⟨rfl, by
    have : decide (V.bl i = V.bl j) = decide (i = j) := by simp
    rw [this]; exact q _ H3 (e2.trans e3) (rep_bool _)⟩
-- == of data
theorem er_eqD {x y : α} [DecidableEq α] [DatEq α] {n : Nat} [Deep α n] (ha : ER K ta σ H x) (hb : ER K tb σ H y) (hn : n ≤ 64 := by decide) : ER K (tOp (rEqD K) ta tb) σ H (decide (x = y)) := fun H1 e Q q =>
  ha H1 e _ fun v H2 e2 r2 => hb H2 (e.trans e2) _ fun w H3 e3 r3 => ⟨enc x, enc y, r2.mono e3, r3, by
      unfold SeqAt.shaped; rw [DatEq.lay]; exact decide_eq_true (Nat.le_trans (Deep.dep x) hn), by
      unfold SeqAt.shaped; rw [DatEq.lay]; exact decide_eq_true (Nat.le_trans (Deep.dep y) hn), by rw [DatEq.eqv]; exact q _ H3 (e2.trans e3) (rep_bool _)⟩
theorem er_neD {x y : α} [DecidableEq α] [DatEq α] {n : Nat} [Deep α n] (ha : ER K ta σ H x) (hb : ER K tb σ H y) (hn : n ≤ 64 := by decide) : ER K (tOp (rNeD K) ta tb) σ H (!decide (x = y)) := fun H1 e Q q =>
  ha H1 e _ fun v H2 e2 r2 => hb H2 (e.trans e2) _ fun w H3 e3 r3 => ⟨enc x, enc y, r2.mono e3, r3, by
      unfold SeqAt.shaped; rw [DatEq.lay]; exact decide_eq_true (Nat.le_trans (Deep.dep x) hn), by
      unfold SeqAt.shaped; rw [DatEq.lay]; exact decide_eq_true (Nat.le_trans (Deep.dep y) hn), by rw [DatEq.eqv]; exact q _ H3 (e2.trans e3) (rep_bool _)⟩
-- subscripts
theorem reps_at {vs : List V} {xs : List α} {i : Int} {x : α} (r : Reps K H vs xs) (h : atI xs i = some x) : ∃ v, atI vs i = some v ∧ Rep K H v x := by
  unfold atI at h ⊢
  rw [r.len]
  cases e : ixN xs.length i with
  | none => rw [e] at h; cases h
  | some j =>
    rw [e] at h
    exact r.get h
theorem er_ixL {xs : List α} {i : Int} {x : α} (ha : ER K ta σ H xs) (hb : ER K tb σ H i) (hx : atI xs i = some x) : ER K (tOp (rIxL K) ta tb) σ H x := fun H1 e Q q =>
  ha H1 e _ fun v H2 e2 r => hb.evI H2 (e.trans e2) _ fun H3 e3 => by
    obtain ⟨a, vs, rfl, s, r⟩ := (Rep.list r)
    obtain ⟨w, hw, rw'⟩ := reps_at r hx
    exact ⟨a, vs, i, w, rfl, rfl, Evl.ex_l e3 s, hw, q _ H3 (e2.trans e3) (rw'.mono e3)⟩
theorem er_ixT {xs : Tp α} {i : Int} {x : α} (ha : ER K ta σ H xs) (hb : ER K tb σ H i) (hx : atI (α := α) xs i = some x) : ER K (tOp (rIxT K) ta tb) σ H x := fun H1 e Q q =>
  ha H1 e _ fun v H2 e2 r => hb.evI H2 (e.trans e2) _ fun H3 e3 => by
    obtain ⟨a, vs, rfl, s, r⟩ := (Rep.tup r)
    obtain ⟨w, hw, rw'⟩ := reps_at r hx
    exact ⟨a, vs, i, w, rfl, rfl, Evl.ex_t e3 s, hw, q _ H3 (e2.trans e3) (rw'.mono e3)⟩
theorem er_ix0 {x : α × β} (ha : ER K ta σ H x) : ER K (tOp (rIxT K) ta (tC (.int 0))) σ H x.1 := fun H1 e Q q =>
  ha H1 e _ fun v H2 e2 r => by
    obtain ⟨a, u, w, rfl, s, r1, r2⟩ := (Rep.pair r)
    exact ⟨a, _, 0, u, rfl, rfl, s, rfl, q _ H2 e2 r1⟩
theorem er_ix1 {x : α × β} (ha : ER K ta σ H x) : ER K (tOp (rIxT K) ta (tC (.int 1))) σ H x.2 := fun H1 e Q q =>
  ha H1 e _ fun v H2 e2 r => by
    obtain ⟨a, u, w, rfl, s, r1, r2⟩ := (Rep.pair r)
    exact ⟨a, _, 1, w, rfl, rfl, s, rfl, q _ H2 e2 r2⟩
-- len, int, list, tuple
theorem er_len {xs : List α} {k : Int} (ha : ER K ta σ H xs) (hk : k = (xs.length : Int)) : ER K (tCB (fun xs H Q => ∃ p ys, xs = [.ref p] ∧ (SqL K H p ys ∨ SqT K H p ys) ∧ Q (.int ys.length) H) (tCons ta tNil)) σ H k := fun H1 e Q q =>
  ha H1 e _ fun v H2 e2 r => by
    obtain ⟨a, vs, rfl, s, r⟩ := (Rep.list r)
    exact ⟨a, vs, rfl, .inl s, q _ H2 e2 (by rw [hk, ← r.len]; exact rep_int _)⟩
theorem er_lenT {xs : Tp α} {k : Int} (ha : ER K ta σ H xs) (hk : k = (List.length xs : Int)) : ER K (tCB (fun xs H Q => ∃ p ys, xs = [.ref p] ∧ (SqL K H p ys ∨ SqT K H p ys) ∧ Q (.int ys.length) H) (tCons ta tNil)) σ H k := fun H1 e Q q =>
  ha H1 e _ fun v H2 e2 r => by
    obtain ⟨a, vs, rfl, s, r⟩ := (Rep.tup r)
    exact ⟨a, vs, rfl, .inr s, q _ H2 e2 (by rw [hk, ← r.len]; exact rep_int _)⟩
theorem er_int1 {n : Int} (ha : ER K ta σ H n) : ER K (tCB (fun xs H Q => (∃ i, xs = [.int i] ∧ Q (.int i) H) ∨ ∃ k, xs = [.bl k] ∧ Q (.int (if k then 1 else 0)) H) (tCons ta tNil)) σ H n := fun H1 e Q q =>
  ha.evI H1 e _ fun H2 e2 => .inl ⟨n, rfl, q _ H2 e2 (rep_int _)⟩
theorem el_list {xs : List α} (ha : ER K ta σ H xs) : EL K (tCB (fun xs H Q => ∃ p ys, xs = [.ref p] ∧ (SqL K H p ys ∨ SqT K H p ys) ∧ ∀ l, H l = none → Q (.ref l) (upd H l (.lst ys))) (tCons ta tNil)) σ H xs := fun H1 e Q q =>
  ha H1 e _ fun v H2 e2 r => by
    obtain ⟨a, vs, rfl, s, r⟩ := (Rep.list r)
    exact ⟨a, vs, rfl, .inl s, fun l hl => q l _ (fresh_back e2 hl) (e2.trans (Evl.Ex.new hl)) ⟨vs, upd_same, by rw [cut_updn hl]; exact r⟩⟩
theorem el_listT {xs : Tp α} (ha : ER K ta σ H xs) : EL K (tCB (fun xs H Q => ∃ p ys, xs = [.ref p] ∧ (SqL K H p ys ∨ SqT K H p ys) ∧ ∀ l, H l = none → Q (.ref l) (upd H l (.lst ys))) (tCons ta tNil)) σ H (α := α) xs := fun H1 e Q q =>
  ha H1 e _ fun v H2 e2 r => by
    obtain ⟨a, vs, rfl, s, r⟩ := (Rep.tup r)
    exact ⟨a, vs, rfl, .inr s, fun l hl => q l _ (fresh_back e2 hl) (e2.trans (Evl.Ex.new hl)) ⟨vs, upd_same, by rw [cut_updn hl]; exact r⟩⟩
theorem er_tuple {xs : List α} (ha : ER K ta σ H xs) : ER K (tCB (fun xs H Q => ∃ p ys, xs = [.ref p] ∧ ((SqL K H p ys ∧ ∀ l, H l = none → Q (.ref l) (upd H l (.tup ys))) ∨ (SqT K H p ys ∧ Q (.ref p) H))) (tCons ta tNil)) σ H (show Tp α from xs) := fun H1 e Q q =>
  ha H1 e _ fun v H2 e2 r => by
    obtain ⟨a, vs, rfl, s, r⟩ := (Rep.list r)
    exact ⟨a, vs, rfl, .inl ⟨s, fun l hl => q _ _ (e2.trans (Evl.Ex.new hl)) (rep_tup (SqT.of upd_same) (r.mono (Evl.Ex.new hl)))⟩⟩
-- displays
/-- arguments that stand for xs -/
def EA (K : PySem.W.Frag) {α : Type} [Dat α] (ta : TA) (σ : L2.St) (H : Hp) (xs : List α) : Prop := ∀ H1, Ex H H1 → ∀ Q : List V → Hp → Prop, (∀ vs H2, Ex H1 H2 → Reps K H2 vs xs → Q vs H2) → ta σ H1 Q
theorem ea_nil : EA K tNil σ H ([] : List α) := fun H1 _ Q q => q [] H1 (Ex.refl H1) reps_nil
theorem ea_cons {tr : TA} {x : α} {xs : List α} (h : ER K ta σ H x) (hr : EA K tr σ H xs) : EA K (tCons ta tr) σ H (x :: xs) := fun H1 e Q q =>
  h H1 e _ fun v H2 e2 r => hr H2 (e.trans e2) _ fun vs H3 e3 rs => q _ H3 (e2.trans e3) (Reps.cons (r.mono e3) rs)
theorem el_lst {t : TA} {xs : List α} (h : EA K t σ H xs) (hl : xs.length ≤ 100000 := by first | decide | (simp only [List.length_cons, List.length_nil]; omega)) : EL K (tLst t) σ H xs := fun H1 e Q q =>
  h H1 e _ fun vs H2 e2 r => ⟨Evl.sz_of (by rw [r.len]; exact hl), fun p hp => q p _ (fresh_back e2 hp) (e2.trans (Evl.Ex.new hp)) ⟨vs, upd_same, by rw [cut_updn hp]; exact r⟩⟩
theorem er_tup {t : TA} {xs : List α} (h : EA K t σ H xs) (hl : xs.length ≤ 100000 := by first | decide | (simp only [List.length_cons, List.length_nil]; omega)) : ER K (tTup t) σ H (show Tp α from xs) := fun H1 e Q q =>
  h H1 e _ fun vs H2 e2 r => ⟨Evl.sz_of (by rw [r.len]; exact hl), fun p hp => q _ _ (e2.trans (Evl.Ex.new hp)) (rep_tup (SqT.of upd_same) (r.mono (Evl.Ex.new hp)))⟩
theorem er_pair {x : α} {y : β} (h : ER K ta σ H x) (k : ER K tb σ H y) : ER K (tTup (tCons ta (tCons tb tNil))) σ H (x, y) := fun H1 e Q q =>
  h H1 e _ fun v H2 e2 r => k H2 (e.trans e2) _ fun w H3 e3 s => ⟨Evl.sz_of (by show 2 ≤ 100000; decide), fun p hp => q _ _ ((e2.trans e3).trans (Evl.Ex.new hp)) (rep_pair (SqT.of upd_same) (r.mono (e3.trans (Evl.Ex.new hp))) (s.mono (Evl.Ex.new hp)))⟩
-- slices
theorem eo_none : EO K tNoPart σ H none := fun H1 _ Q q => q H1 (Ex.refl H1)
theorem eo_some {i : Int} (h : ER K te σ H i) : EO K (tPart te) σ H (some i) := fun H1 e Q q => h.evI H1 e _ fun H2 e2 => ⟨i, rfl, q H2 e2⟩
def cutD {α : Type} (xs : List α) (lo hi : Option Int) : List α := (xs.drop (HT.sIx xs.length 0 lo)).take (HT.sIx xs.length xs.length hi - HT.sIx xs.length 0 lo)
theorem Reps.cutV {vs : List V} {xs : List α} {lo hi : Option Int} (r : Reps K H vs xs) : Reps K H (L2.cutV vs lo hi) (cutD xs lo hi) := by
  unfold L2.cutV cutD
  rw [r.len]
  exact (r.drop _).take _
theorem el_sl {xs : List α} {tl th : TO} {lo hi : Option Int} (ha : ER K ta σ H xs) (hl : EO K tl σ H lo) (hh : EO K th σ H hi) : EL K (tSl (rSlL K) ta tl th) σ H (cutD xs lo hi) := fun H1 e Q q =>
  ha H1 e _ fun v H2 e2 r => hl H2 (e.trans e2) _ fun H3 e3 => hh H3 ((e.trans e2).trans e3) _ fun H4 e4 => by
    obtain ⟨a, vs, rfl, s, r⟩ := (Rep.list r)
    exact ⟨a, vs, rfl, Evl.ex_l (e3.trans e4) s, fun p hp => q p _ (fresh_back ((e2.trans e3).trans e4) hp) (((e2.trans e3).trans e4).trans (Evl.Ex.new hp))
      ⟨_, upd_same, by rw [cut_updn hp]; exact (r.cutV).mono (e3.trans e4)⟩⟩
theorem er_slT {xs : Tp α} {tl th : TO} {lo hi : Option Int} (ha : ER K ta σ H xs) (hl : EO K tl σ H lo) (hh : EO K th σ H hi) : ER K (tSl (rSlA K) ta tl th) σ H (show Tp α from cutD (α := α) xs lo hi) := fun H1 e Q q =>
  ha H1 e _ fun v H2 e2 r => hl H2 (e.trans e2) _ fun H3 e3 => hh H3 ((e.trans e2).trans e3) _ fun H4 e4 => by
    obtain ⟨a, vs, rfl, s, r⟩ := (Rep.tup r)
    have s4 := Evl.ex_t (e3.trans e4) s
    have r4 := r.mono (e3.trans e4)
    refine ⟨a, vs, rfl, s4, fun w => q _ H4 ((e2.trans e3).trans e4) (rep_tup (vs := vs) s4 ?_), fun w p hp => q _ _ (((e2.trans e3).trans e4).trans (Evl.Ex.new hp)) (rep_tup (SqT.of upd_same) ((r4.cutV).mono (Evl.Ex.new hp)))⟩
    have c := Reps.cutV (lo := lo) (hi := hi) r4
    have z : L2.cutV vs lo hi = vs := by
      unfold L2.cutV
      rw [w.1, w.2, List.drop_zero, Nat.sub_zero, List.take_length]
    rw [z] at c
    exact c
theorem el_rev {xs : List α} (ha : ER K ta σ H xs) : EL K (tRevL K ta) σ H xs.reverse := fun H1 e Q q =>
  ha H1 e _ fun v H2 e2 r => by
    obtain ⟨a, vs, rfl, s, r⟩ := (Rep.list r)
    exact ⟨a, vs, rfl, s, fun p hp => q p _ (fresh_back e2 hp) (e2.trans (Evl.Ex.new hp)) ⟨_, upd_same, by rw [cut_updn hp]; exact r.reverse⟩⟩
-- tuple + tuple
theorem er_catT {xs ys : Tp α} (ha : ER K ta σ H xs) (hb : ER K tb σ H ys) (hl : List.length xs + List.length ys ≤ 100000) : ER K (tOp (rCatA K) ta tb) σ H (show Tp α from @List.append α xs ys) := fun H1 e Q q =>
  ha H1 e _ fun v H2 e2 r => hb H2 (e.trans e2) _ fun w H3 e3 s => by
    obtain ⟨a, vs, rfl, s1, r1⟩ := (Rep.tup r)
    obtain ⟨b, ws, rfl, s2, r2⟩ := (Rep.tup s)
    have s1' := Evl.ex_t e3 s1
    have r1' := r1.mono e3
    have c : Reps K H3 (vs ++ ws) (@List.append α xs ys) := r1'.append r2
    refine ⟨a, b, vs, ws, rfl, rfl, s1', s2, Evl.sz_of (by rw [r1.len, r2.len]; exact hl), fun z => ?_, fun _ z => ?_, fun _ _ p hp => ?_⟩
    · subst z
      exact q _ H3 (e2.trans e3) (rep_tup s2 c)
    · subst z
      rw [List.append_nil] at c
      exact q _ H3 (e2.trans e3) (rep_tup s1' c)
    · exact q _ _ ((e2.trans e3).trans (Evl.Ex.new hp)) (rep_tup (SqT.of upd_same) (c.mono (Evl.Ex.new hp)))
-- list + list, of lists that stand tracked
theorem el_cat {xs ys : List α} (ha : EL K ta σ H xs) (hb : EL K tb σ H ys) [Flat α] (hl : xs.length + ys.length ≤ 100000) : EL K (tOp rCat ta tb) σ H (xs ++ ys) := fun H1 e Q q =>
  ha H1 e _ fun p H2 hp e2 o => hb H2 (e.trans e2) _ fun r H3 hr e3 o2 => by
    obtain ⟨vs, h1, r1⟩ := (o.mono e3).ex
    obtain ⟨ws, h2, r2⟩ := o2.ex
    refine ⟨p, r, vs, ws, rfl, rfl, h1, h2, Evl.sz_of (by rw [r1.len, r2.len]; exact hl), fun t ht => q t _ (fresh_back (e2.trans e3) ht) ((e2.trans e3).trans (Evl.Ex.new ht)) ⟨_, upd_same, ?_⟩⟩
    rw [cut_updn ht]
    exact (r1.mono cut_ex).append (r2.mono cut_ex)
-- tests
theorem et_test {b : Bool} (h : ER K te σ H b) : ET K (tTest te) σ H b := fun H1 e _ q => h.evB H1 e _ fun H2 e2 => ⟨b, rfl, q H2 e2⟩
theorem et_B {b : Bool} (h : ER K te σ H b) : ET K (tB te) σ H b := fun H1 e _ q => h.evB H1 e _ fun H2 e2 => ⟨b, rfl, q H2 e2⟩
theorem et_and {a b : Bool} (h1 : ET K tt σ H a) (h2 : a = true → ET K tu σ H b) : ET K (tAnd tt tu) σ H (a && b) := fun H1 e Q q => h1 H1 e _ fun H2 e2 => by
  cases a with
  | true => exact h2 rfl H2 (e.trans e2) Q fun H3 e3 => q H3 (e2.trans e3)
  | false => exact q H2 e2
theorem et_or {a b : Bool} (h1 : ET K tt σ H a) (h2 : a = false → ET K tu σ H b) : ET K (tOr tt tu) σ H (a || b) := fun H1 e Q q => h1 H1 e _ fun H2 e2 => by
  cases a with
  | true => exact q H2 e2
  | false => exact h2 rfl H2 (e.trans e2) Q fun H3 e3 => q H3 (e2.trans e3)
theorem et_not {a : Bool} (h1 : ET K tt σ H a) : ET K (tNot tt) σ H (!a) := fun H1 e _ q => h1 H1 e _ fun H2 e2 => q H2 e2
theorem er_andV {a b : Bool} (h1 : ER K ta σ H a) (h2 : a = true → ER K tb σ H b) : ER K (tAndV ta tb) σ H (a && b) := fun H1 e Q q => h1.evB H1 e _ fun H2 e2 => ⟨a, rfl, by
  cases a with
  | true => exact h2 rfl H2 (e.trans e2) Q fun v H3 e3 r => q v H3 (e2.trans e3) r
  | false => exact q _ H2 e2 (rep_bool _)⟩
theorem er_orV {a b : Bool} (h1 : ER K ta σ H a) (h2 : a = false → ER K tb σ H b) : ER K (tOrV ta tb) σ H (a || b) := fun H1 e Q q => h1.evB H1 e _ fun H2 e2 => ⟨a, rfl, by
  cases a with
  | true => exact q _ H2 e2 (rep_bool _)
  | false => exact h2 rfl H2 (e.trans e2) Q fun v H3 e3 r => q v H3 (e2.trans e3) r⟩
theorem er_notV {a : Bool} (h1 : ER K ta σ H a) : ER K (tNotV ta) σ H (!a) := fun H1 e Q q => h1.evB H1 e _ fun H2 e2 => ⟨a, rfl, q _ H2 e2 (rep_bool _)⟩
theorem er_if {b : Bool} {x y : α} (h : ET K tt σ H b) (h1 : b = true → ER K ta σ H x) (h2 : b = false → ER K tb σ H y) : ER K (tIf tt ta tb) σ H (if b = true then x else y) := fun H1 e Q q => h H1 e _ fun H2 e2 => by
  cases b with
  | true => exact h1 rfl H2 (e.trans e2) Q fun v H3 e3 r => q v H3 (e2.trans e3) r
  | false => exact h2 rfl H2 (e.trans e2) Q fun v H3 e3 r => q v H3 (e2.trans e3) r
end
/-! ### promises of defs -/
section
variable (K : PySem.W.Frag) {α β γ δ ε : Type} [Dat α] [Dat β] [Dat γ] [Dat δ] [Dat ε]
/-- a datum from data -/
def sp1 (pre : α → Prop) (m : α → ε) : Sp := fun vs H Q _ => ∃ v x, vs = [v] ∧ Rep K H v x ∧ pre x ∧ ∀ w H', Ex H H' → Rep K H' w (m x) → Q w H'
def sp2 (pre : α → β → Prop) (m : α → β → ε) : Sp := fun vs H Q _ => ∃ v u x y, vs = [v, u] ∧ Rep K H v x ∧ Rep K H u y ∧ pre x y ∧ ∀ w H', Ex H H' → Rep K H' w (m x y) → Q w H'
def sp3 (pre : α → β → γ → Prop) (m : α → β → γ → ε) : Sp := fun vs H Q _ => ∃ v u t x y z, vs = [v, u, t] ∧ Rep K H v x ∧ Rep K H u y ∧ Rep K H t z ∧ pre x y z ∧ ∀ w H', Ex H H' → Rep K H' w (m x y z) → Q w H'
/-- a new list from data -/
def sl1 (pre : α → Prop) (m : α → List ε) : Sp := fun vs H Q _ => ∃ v x, vs = [v] ∧ Rep K H v x ∧ pre x ∧ ∀ p H', H p = none → Ex H H' → Own K H' p (m x) → Q (.ref p) H'
def sl2 (pre : α → β → Prop) (m : α → β → List ε) : Sp := fun vs H Q _ => ∃ v u x y, vs = [v, u] ∧ Rep K H v x ∧ Rep K H u y ∧ pre x y ∧ ∀ p H', H p = none → Ex H H' → Own K H' p (m x y) → Q (.ref p) H'
def sl3 (pre : α → β → γ → Prop) (m : α → β → γ → List ε) : Sp := fun vs H Q _ => ∃ v u t x y z, vs = [v, u, t] ∧ Rep K H v x ∧ Rep K H u y ∧ Rep K H t z ∧ pre x y z ∧ ∀ p H', H p = none → Ex H H' → Own K H' p (m x y z) → Q (.ref p) H'
end
section
variable {K : PySem.W.Frag} {α β γ δ ε : Type} [Dat α] [Dat β] [Dat γ] [Dat δ] [Dat ε] {σ : L2.St} {H : Hp} {ta tb tc : TE} {E : XK}
theorem er_c1 {pre : α → Prop} {m : α → ε} {x : α} (h : ER K ta σ H x) (hp : pre x) : ER K (tCall (sp1 K pre m) [] E (tCons ta tNil)) σ H (m x) := fun H1 e Q q =>
  h H1 e _ fun v H2 e2 r => ⟨v, x, rfl, r, hp, fun w H3 e3 s => q w H3 (e2.trans e3) s⟩
theorem er_c2 {pre : α → β → Prop} {m : α → β → ε} {x : α} {y : β} (h : ER K ta σ H x) (h2 : ER K tb σ H y) (hp : pre x y) : ER K (tCall (sp2 K pre m) [] E (tCons ta (tCons tb tNil))) σ H (m x y) := fun H1 e Q q =>
  h H1 e _ fun v H2 e2 r => h2 H2 (e.trans e2) _ fun u H3 e3 r2 => ⟨v, u, x, y, rfl, r.mono e3, r2, hp, fun w H4 e4 s => q w H4 ((e2.trans e3).trans e4) s⟩
theorem er_c3 {pre : α → β → γ → Prop} {m : α → β → γ → ε} {x : α} {y : β} {z : γ} (h : ER K ta σ H x) (h2 : ER K tb σ H y) (h3 : ER K tc σ H z) (hp : pre x y z) : ER K (tCall (sp3 K pre m) [] E (tCons ta (tCons tb (tCons tc tNil)))) σ H (m x y z) := fun H1 e Q q =>
  h H1 e _ fun v H2 e2 r => h2 H2 (e.trans e2) _ fun u H3 e3 r2 => h3 H3 ((e.trans e2).trans e3) _ fun t H4 e4 r3 => ⟨v, u, t, x, y, z, rfl, r.mono (e3.trans e4), r2.mono e4, r3, hp, fun w H5 e5 s => q w H5 (((e2.trans e3).trans e4).trans e5) s⟩
theorem el_c1 {pre : α → Prop} {m : α → List ε} {x : α} (h : ER K ta σ H x) (hp : pre x) : EL K (tCall (sl1 K pre m) [] E (tCons ta tNil)) σ H (m x) := fun H1 e Q q =>
  h H1 e _ fun v H2 e2 r => ⟨v, x, rfl, r, hp, fun w H3 n3 e3 s => q w H3 (fresh_back e2 n3) (e2.trans e3) s⟩
theorem el_c2 {pre : α → β → Prop} {m : α → β → List ε} {x : α} {y : β} (h : ER K ta σ H x) (h2 : ER K tb σ H y) (hp : pre x y) : EL K (tCall (sl2 K pre m) [] E (tCons ta (tCons tb tNil))) σ H (m x y) := fun H1 e Q q =>
  h H1 e _ fun v H2 e2 r => h2 H2 (e.trans e2) _ fun u H3 e3 r2 => ⟨v, u, x, y, rfl, r.mono e3, r2, hp, fun w H4 n4 e4 s => q w H4 (fresh_back (e2.trans e3) n4) ((e2.trans e3).trans e4) s⟩
theorem el_c3 {pre : α → β → γ → Prop} {m : α → β → γ → List ε} {x : α} {y : β} {z : γ} (h : ER K ta σ H x) (h2 : ER K tb σ H y) (h3 : ER K tc σ H z) (hp : pre x y z) : EL K (tCall (sl3 K pre m) [] E (tCons ta (tCons tb (tCons tc tNil)))) σ H (m x y z) := fun H1 e Q q =>
  h H1 e _ fun v H2 e2 r => h2 H2 (e.trans e2) _ fun u H3 e3 r2 => h3 H3 ((e.trans e2).trans e3) _ fun t H4 e4 r3 => ⟨v, u, t, x, y, z, rfl, r.mono (e3.trans e4), r2.mono e4, r3, hp, fun w H5 n5 e5 s => q w H5 (fresh_back ((e2.trans e3).trans e4) n5) (((e2.trans e3).trans e4).trans e5) s⟩
end
section
variable {CX : CXT} {P : Program} {w : World} {K : PySem.W.Frag} {mg : Str → Option Value} {base : Heap} {N : List Str} {qual : Str} {sc : Scope} {f : Addr} {cd : Value} {A : Around} {outer : List Env} {s : Shared} {H : Hp} {E : XK} {X : Cx}
theorem kx1 : (cxOf CX P w K mg base N qual sc f cd A outer s H E).nox.K = K := rfl
theorem kx2 : (cxOf CX P w K mg base N qual sc f cd A outer s H E).K = K := rfl
theorem kx3 {s' : Shared} {H' : Hp} {scope : Scope} {env : Env} {fp : List Addr} : (X.blk s' H' scope env fp).K = X.K := rfl
end
/-! ### statements -/
section
variable {K : PySem.W.Frag} {α β : Type} [Dat α] [Dat β] {σ : L2.St} {G H : Hp} {te : TE} {tt : TT} {t u : TS} {D : Ends} {i : Nat}
theorem s_seq (h : t { D with nx := u D } σ H) : tSeq t u D σ H := h
theorem s_set {x : α} (h : ER K te σ H x) (k : ∀ v H', Ex H H' → Rep K H' v x → D.nx (σ.set i (some v)) H') : tAsg te (gName i) D σ H := h H (Ex.refl H) _ k
theorem s_setI {x : Int} (h : ER K te σ H x) (k : ∀ H', Ex H H' → D.nx (σ.set i (some (.int x))) H') : tAsg te (gName i) D σ H := h.evI H (Ex.refl H) _ k
theorem s_setB {x : Bool} (h : ER K te σ H x) (k : ∀ H', Ex H H' → D.nx (σ.set i (some (.bl x))) H') : tAsg te (gName i) D σ H := h.evB H (Ex.refl H) _ k
theorem s_setL {xs : List α} (h : EL K te σ H xs) (k : ∀ p H', H p = none → Ex H H' → Own K H' p xs → D.nx (σ.set i (some (.ref p))) H') : tAsg te (gName i) D σ H := h H (Ex.refl H) _ k
/-! the same ahead of a rest -/
theorem q_asg {w : V} {g : TG} (h : EV K te σ H w) (k : ∀ H', Ex H H' → g w σ H' (u D)) : tSeq (tAsg te g) u D σ H := h H (Ex.refl H) _ k
theorem q_set {x : α} (h : ER K te σ H x) (k : ∀ v H', Ex H H' → Rep K H' v x → u D (σ.set i (some v)) H') : tSeq (tAsg te (gName i)) u D σ H := s_set (D := { D with nx := u D }) h k
theorem q_setI {x : Int} (h : ER K te σ H x) (k : ∀ H', Ex H H' → u D (σ.set i (some (.int x))) H') : tSeq (tAsg te (gName i)) u D σ H := s_setI (D := { D with nx := u D }) h k
theorem q_setB {x : Bool} (h : ER K te σ H x) (k : ∀ H', Ex H H' → u D (σ.set i (some (.bl x))) H') : tSeq (tAsg te (gName i)) u D σ H := s_setB (D := { D with nx := u D }) h k
theorem q_setV {v : V} (h : EV K te σ H v) (k : ∀ H', Ex H H' → u D (σ.set i (some v)) H') : tSeq (tAsg te (gName i)) u D σ H := h H (Ex.refl H) _ k
theorem q_setL {xs : List α} (h : EL K te σ H xs) (k : ∀ p H', H p = none → Ex H H' → Own K H' p xs → u D (σ.set i (some (.ref p))) H') : tSeq (tAsg te (gName i)) u D σ H := s_setL (D := { D with nx := u D }) h k
theorem s_ret {x : α} (h : ER K te σ H x) (k : ∀ v H', Ex H H' → Rep K H' v x → D.rt v H') : tRet te D σ H := h H (Ex.refl H) _ k
theorem s_retL {xs : List α} (h : EL K te σ H xs) (k : ∀ p H', H p = none → Ex H H' → Own K H' p xs → D.rt (.ref p) H') : tRet te D σ H := h H (Ex.refl H) _ k
theorem s_if {b : Bool} (h : ET K tt σ H b) (k1 : b = true → ∀ H', Ex H H' → t D σ H') (k2 : b = false → ∀ H', Ex H H' → u D σ H') : tIfS tt t u D σ H := h H (Ex.refl H) _ fun H2 e2 => by
  cases b with
  | true => exact k1 rfl H2 e2
  | false => exact k2 rfl H2 e2
theorem q_if {b : Bool} (h : ET K tt σ H b) (k1 : b = true → ∀ H', Ex H H' → t { D with nx := u D } σ H') (k2 : b = false → ∀ H', Ex H H' → u D σ H') : tSeq (tIfS tt t tNext) u D σ H := s_if (D := { D with nx := u D }) h k1 k2
/-- l.append(e), l a name -/
theorem s_app {l : Nat} {p : Addr} {xs : List α} {x : α} (hl : σ[l]? = some (some (.ref p))) (ho : Own K H p xs) (h : ER K te σ H x) [Flat α] (hz : xs.length < 100000) (k : ∀ H', (∀ G, Ex G H → G p = none → Ex G H') → Tups H H' → Own K H' p (xs ++ [x]) → D.nx σ H') :
    tDrop (tBM K "list" rAppend (tVar l) (tCons te tNil)) D σ H := by
  obtain ⟨vs, h1, r1⟩ := ho.ex
  refine ⟨_, hl, .inl ⟨rfl, _, SqL.of h1⟩, h H (Ex.refl H) _ fun v H1 e1 r => ?_⟩
  obtain ⟨ws, h2, r2⟩ := (ho.mono e1).ex
  have ew : ws = vs := by
    have := e1 _ _ h1
    rw [this] at h2
    cases h2; rfl
  subst ew
  refine ⟨p, ws, v, rfl, rfl, h2, Evl.sz_lt (by rw [r2.len]; exact hz), k _ (fun G eG hG => ex_mut (eG.trans e1) hG) ((Tups.ex e1).trans (Tups.upd h2)) ⟨_, upd_same, ?_⟩⟩
  rw [cut_upd]
  exact Reps.append r2 (Reps.cons (r.imm (Tups.cut h2)) reps_nil)
theorem q_app {l : Nat} {p : Addr} {xs : List α} {x : α} (hl : σ[l]? = some (some (.ref p))) (ho : Own K H p xs) (h : ER K te σ H x) [Flat α] (hz : xs.length < 100000) (k : ∀ H', (∀ G, Ex G H → G p = none → Ex G H') → Tups H H' → Own K H' p (xs ++ [x]) → u D σ H') :
    tSeq (tDrop (tBM K "list" rAppend (tVar l) (tCons te tNil))) u D σ H := s_app (D := { D with nx := u D }) hl ho h hz k
/-- a for over a list that stands; G: what the turns leave as it is -/
theorem s_for {xs : List α} {g : TG} {tb : TS} (h : ER K te σ H xs) (k : ∀ a vs H1, Ex H H1 → SqL K H1 a vs → Reps K H1 vs xs → ∃ (G : Hp) (J : Nat → L2.St → Hp → Prop), Ex G H1 ∧ SqL K G a vs ∧ Reps K G vs xs ∧ J 0 σ H1 ∧
      (∀ i x v σ' H', xs[i]? = some x → Ex G H' → Rep K G v x → J i σ' H' → g v σ' H' fun σ2 H2 => tb { D with nx := fun σ3 H3 => Ex G H3 ∧ J (i + 1) σ3 H3, ct := fun σ3 H3 => Ex G H3 ∧ J (i + 1) σ3 H3, bk := D.nx } σ2 H2) ∧
      (∀ σ' H', Ex G H' → J xs.length σ' H' → D.nx σ' H')) : tFor (iList K te) g tb D σ H := h H (Ex.refl H) _ fun v H1 e1 r => by
  obtain ⟨a, vs, rfl, s, r⟩ := (Rep.list r)
  obtain ⟨G, J, eG, sG, rG, j0, js, jd⟩ := k a vs H1 e1 s r
  refine ⟨a, rfl, ⟨vs, s⟩, for_list (K := K) (a := a) (xs := vs) (fun i σ' H' => Ex G H' ∧ J i σ' H') ⟨eG, j0⟩ (fun i σ' H' _ z => Evl.ex_l z.1 sG) (fun i v σ' H' hi z => ?_) (fun σ' H' z => ?_)⟩
  · obtain ⟨x, hx, rx⟩ := rG.got hi
    exact js i x v σ' H' hx z.1 rx z.2
  · rw [r.len] at z
    exact jd σ' H' z.1 z.2
/-- .. over a list that a name holds and that stands in G -/
theorem s_forV {xs : List α} {n : Nat} {v : V} {g : TG} {tb : TS} (hσ : σ[n]? = some (some v)) (r : Rep K G v xs) (e : Ex G H) (J : Nat → L2.St → Hp → Prop) (j0 : J 0 σ H)
    (js : ∀ i x w σ' H', xs[i]? = some x → Ex G H' → Rep K G w x → J i σ' H' → g w σ' H' fun σ2 H2 => tb { D with nx := fun σ3 H3 => Ex G H3 ∧ J (i + 1) σ3 H3, ct := fun σ3 H3 => Ex G H3 ∧ J (i + 1) σ3 H3, bk := D.nx } σ2 H2)
    (jd : ∀ σ' H', Ex G H' → J xs.length σ' H' → D.nx σ' H') : tFor (iList K (tVar n)) g tb D σ H := by
  obtain ⟨a, vs, rfl, sG, rG⟩ := Rep.list r
  refine ⟨_, hσ, a, rfl, ⟨vs, Evl.ex_l e sG⟩, for_list (K := K) (a := a) (xs := vs) (fun i σ' H' => Ex G H' ∧ J i σ' H') ⟨e, j0⟩ (fun i σ' H' _ z => Evl.ex_l z.1 sG) (fun i w σ' H' hi z => ?_) (fun σ' H' z => ?_)⟩
  · obtain ⟨x, hx, rx⟩ := rG.got hi
    exact js i x w σ' H' hx z.1 rx z.2
  · rw [rG.len] at z
    exact jd σ' H' z.1 z.2
theorem s_forT {xs : Tp α} {g : TG} {tb : TS} (h : ER K te σ H xs) (k : ∀ a vs H1, Ex H H1 → SqT K H1 a vs → Reps K H1 vs (α := α) xs → ∃ (G : Hp) (J : Nat → L2.St → Hp → Prop), Ex G H1 ∧ SqT K G a vs ∧ Reps K G vs (α := α) xs ∧ J 0 σ H1 ∧
      (∀ i x v σ' H', (show List α from xs)[i]? = some x → Ex G H' → Rep K G v x → J i σ' H' → g v σ' H' fun σ2 H2 => tb { D with nx := fun σ3 H3 => Ex G H3 ∧ J (i + 1) σ3 H3, ct := fun σ3 H3 => Ex G H3 ∧ J (i + 1) σ3 H3, bk := D.nx } σ2 H2) ∧
      (∀ σ' H', Ex G H' → J (List.length xs) σ' H' → D.nx σ' H')) : tFor (iTup K te) g tb D σ H := h H (Ex.refl H) _ fun v H1 e1 r => by
  obtain ⟨a, vs, rfl, s, r⟩ := (Rep.tup r)
  obtain ⟨G, J, eG, sG, rG, j0, js, jd⟩ := k a vs H1 e1 s r
  refine ⟨a, rfl, ⟨vs, s⟩, for_tup (K := K) (a := a) (xs := vs) (fun i σ' H' => Ex G H' ∧ J i σ' H') ⟨eG, j0⟩ (fun i σ' H' _ z => Evl.ex_t z.1 sG) (fun i v σ' H' hi z => ?_) (fun σ' H' z => ?_)⟩
  · obtain ⟨x, hx, rx⟩ := rG.got hi
    exact js i x v σ' H' hx z.1 rx z.2
  · rw [r.len] at z
    exact jd σ' H' z.1 z.2
/-- for k in range(n) -/
theorem s_rng {n : Int} {ta : TE} {g : TG} {tb : TS} (h : ER K ta σ H n) (hn : n < 2 ^ 62) (hn0 : -(2 ^ 62) ≤ n) (k : ∀ H1, Ex H H1 → ∃ (G : Hp) (J : Nat → L2.St → Hp → Prop), Ex G H1 ∧ J 0 σ H1 ∧
      (∀ (i : Nat) σ' H', i < n.toNat → Ex G H' → J i σ' H' → g (.int (i : Int)) σ' H' fun σ2 H2 => tb { D with nx := fun σ3 H3 => Ex G H3 ∧ J (i + 1) σ3 H3, ct := fun σ3 H3 => Ex G H3 ∧ J (i + 1) σ3 H3, bk := D.nx } σ2 H2) ∧
      (∀ σ' H', Ex G H' → J n.toNat σ' H' → D.nx σ' H')) : tFor (iRng1 (tCons ta tNil)) g tb D σ H := h.evI H (Ex.refl H) _ fun H1 e1 => by
  obtain ⟨G, J, eG, j0, js, jd⟩ := k H1 e1
  refine ⟨n, rfl, hn0, hn, for_range (lo := 0) (n := n.toNat) (fun i σ' H' => Ex G H' ∧ J i σ' H') ⟨eG, j0⟩ (fun i σ' H' hi z => ?_) (fun σ' H' z => jd σ' H' z.1 z.2)⟩
  rw [Int.zero_add]
  exact js i σ' H' hi z.1 z.2
theorem s_rng2 {lo hi : Int} {ta tc : TE} {g : TG} {tb : TS} (h : ER K ta σ H lo) (h' : ER K tc σ H hi) (hb : -(2 ^ 62) ≤ lo ∧ lo < 2 ^ 62 ∧ -(2 ^ 62) ≤ hi ∧ hi < 2 ^ 62) (k : ∀ H1, Ex H H1 → ∃ (G : Hp) (J : Nat → L2.St → Hp → Prop), Ex G H1 ∧ J 0 σ H1 ∧
      (∀ (i : Nat) σ' H', i < (hi - lo).toNat → Ex G H' → J i σ' H' → g (.int (lo + (i : Int))) σ' H' fun σ2 H2 => tb { D with nx := fun σ3 H3 => Ex G H3 ∧ J (i + 1) σ3 H3, ct := fun σ3 H3 => Ex G H3 ∧ J (i + 1) σ3 H3, bk := D.nx } σ2 H2) ∧
      (∀ σ' H', Ex G H' → J (hi - lo).toNat σ' H' → D.nx σ' H')) : tFor (iRng2 (tCons ta (tCons tc tNil))) g tb D σ H := h.evI H (Ex.refl H) _ fun H0 e0 => h'.evI H0 e0 _ fun H1 e1 => by
  obtain ⟨G, J, eG, j0, js, jd⟩ := k H1 (e0.trans e1)
  exact ⟨lo, hi, rfl, hb, for_range (lo := lo) (n := (hi - lo).toNat) (fun i σ' H' => Ex G H' ∧ J i σ' H') ⟨eG, j0⟩ (fun i σ' H' hi z => js i σ' H' hi z.1 z.2) (fun σ' H' z => jd σ' H' z.1 z.2)⟩
end
/-! ### comprehensions -/
section
variable {K : PySem.W.Frag} {α β : Type} [Dat α] [Dat β] {σ : L2.St} {G H : Hp} {te tl : TE} {tt : TT} {i : Nat}
theorem wipe1 (v : Option V) : wipe ((wipe σ [i]).set i v) [i] = wipe σ [i] := by
  show (((σ.set i none).set i v).set i none) = σ.set i none
  rw [List.set_set, List.set_set]
/-- [f(x) for x in xs] -/
theorem el_map {xs : List α} {f : α → β} [Flat β] (h : ER K tl σ H xs) (he : ∀ x v H', x ∈ xs → Ex H H' → Rep K H' v x → ER K te ((wipe σ [i]).set i (some v)) H' (f x)) (hz : xs.length ≤ 100000) :
    EL K (tLc (iList K tl) (gName i) tYes te [i]) σ H (xs.map f) := fun H0 e0 Q q => h H0 e0 _ fun v H1 e1 r => by
  obtain ⟨a, vs, rfl, s, r⟩ := (Rep.list r)
  refine ⟨a, rfl, ⟨vs, s⟩, fun D hD => lc_list (K := K) (a := a) (xs := vs) (fun j H' => Ex H1 H' ∧ Own K H' D ((xs.take j).map f)) ⟨Evl.Ex.new hD, by simpa using Own.nil⟩ (fun j H' _ z => Evl.ex_l z.1 s) (fun j v H' hj z => ?_) (fun H' z => ?_)⟩
  · obtain ⟨x, hx, rx⟩ := r.got hj
    have hlt : j < xs.length := (List.getElem?_eq_some_iff.mp hx).1
    refine ⟨wipe1 _, he x v H' (List.mem_of_getElem? hx) (e0.trans (e1.trans z.1)) (rx.mono z.1) H' (Ex.refl H') _ fun w H2 e2 rw' => ?_⟩
    obtain ⟨acc, h1, r1⟩ := (z.2.mono e2).ex
    refine ⟨acc, h1, Evl.sz_lt (by rw [r1.len, List.length_map, List.length_take]; omega), ex_mut (z.1.trans e2) hD, acc ++ [w], upd_same, ?_⟩
    rw [cut_upd, show xs.take (j + 1) = xs.take j ++ [x] by rw [List.take_succ, hx]; rfl, List.map_append]
    exact r1.append (Reps.cons (rw'.imm (Tups.cut h1)) reps_nil)
  · have e : xs.take vs.length = xs := by rw [r.len, List.take_length]
    rw [e] at z
    exact q D H' (fresh_back e1 hD) (e1.trans z.1) z.2
/-- [f(x) for x in xs if p(x)] -/
theorem el_filter {xs : List α} {f : α → β} {p : α → Bool} [Flat β] (h : ER K tl σ H xs) (ht : ∀ x v H', x ∈ xs → Ex H H' → Rep K H' v x → ET K tt ((wipe σ [i]).set i (some v)) H' (p x))
    (he : ∀ x v H', x ∈ xs → p x = true → Ex H H' → Rep K H' v x → ER K te ((wipe σ [i]).set i (some v)) H' (f x)) (hz : xs.length ≤ 100000) :
    EL K (tLc (iList K tl) (gName i) tt te [i]) σ H ((xs.filter p).map f) := fun H0 e0 Q q => h H0 e0 _ fun v H1 e1 r => by
  obtain ⟨a, vs, rfl, s, r⟩ := (Rep.list r)
  refine ⟨a, rfl, ⟨vs, s⟩, fun D hD => lc_list (K := K) (a := a) (xs := vs) (fun j H' => Ex H1 H' ∧ Own K H' D (((xs.take j).filter p).map f)) ⟨Evl.Ex.new hD, by simpa using Own.nil⟩ (fun j H' _ z => Evl.ex_l z.1 s) (fun j v H' hj z => ?_) (fun H' z => ?_)⟩
  · obtain ⟨x, hx, rx⟩ := r.got hj
    have hlt : j < xs.length := (List.getElem?_eq_some_iff.mp hx).1
    have hm := List.mem_of_getElem? hx
    refine ⟨wipe1 _, ht x v H' hm (e0.trans (e1.trans z.1)) (rx.mono z.1) H' (Ex.refl H') _ fun H2 e2 => ?_⟩
    have et : xs.take (j + 1) = xs.take j ++ [x] := by rw [List.take_succ, hx]; rfl
    cases hp : p x with
    | false =>
      refine (if_neg Bool.false_ne_true).mpr ⟨z.1.trans e2, ?_⟩
      rw [et, List.filter_append, List.filter_cons_of_neg (by simp [hp]), List.filter_nil, List.append_nil]
      exact z.2.mono e2
    | true =>
      refine (if_pos rfl).mpr (he x v H2 hm hp (e0.trans ((e1.trans z.1).trans e2)) (rx.mono (z.1.trans e2)) H2 (Ex.refl H2) _ fun w H3 e3 rw' => ?_)
      obtain ⟨acc, h1, r1⟩ := (z.2.mono (e2.trans e3)).ex
      refine ⟨acc, h1, Evl.sz_lt ?_, ex_mut (z.1.trans (e2.trans e3)) hD, acc ++ [w], upd_same, ?_⟩
      · rw [r1.len, List.length_map]
        have := List.length_filter_le p (xs.take j)
        rw [List.length_take] at this
        omega
      · rw [cut_upd, et, List.filter_append, List.filter_cons_of_pos (by simp [hp]), List.filter_nil, List.map_append]
        exact r1.append (Reps.cons (rw'.imm (Tups.cut h1)) reps_nil)
  · have e : xs.take vs.length = xs := by rw [r.len, List.take_length]
    rw [e] at z
    exact q D H' (fresh_back e1 hD) (e1.trans z.1) z.2
/-- [f(k) for k in range(n)] -/
theorem el_rmap {n : Int} {ta : TE} {f : Nat → β} [Flat β] (h : ER K ta σ H n) (hn0 : 0 ≤ n) (hz : n ≤ 100000) (he : ∀ (k : Nat) H', (k : Int) < n → Ex H H' → ER K te ((wipe σ [i]).set i (some (.int k))) H' (f k)) :
    EL K (tLc (iRng1 (tCons ta tNil)) (gName i) tYes te [i]) σ H ((List.range n.toNat).map f) := fun H0 e0 Q q => h.evI H0 e0 _ fun H1 e1 => by
  refine ⟨n, rfl, by omega, by omega, fun D hD => lc_range (lo := 0) (n := n.toNat) (fun j H' => Ex H1 H' ∧ Own K H' D ((List.range j).map f)) ⟨Evl.Ex.new hD, by simpa using Own.nil⟩ (fun j H' hj z => ?_) (fun H' z => ?_)⟩
  · rw [Int.zero_add]
    refine ⟨wipe1 _, he j H' (by omega) (e0.trans (e1.trans z.1)) H' (Ex.refl H') _ fun w H2 e2 rw' => ?_⟩
    obtain ⟨acc, h1, r1⟩ := (z.2.mono e2).ex
    refine ⟨acc, h1, Evl.sz_lt (by rw [r1.len, List.length_map, List.length_range]; omega), ex_mut (z.1.trans e2) hD, acc ++ [w], upd_same, ?_⟩
    rw [cut_upd, List.range_succ, List.map_append]
    exact r1.append (Reps.cons (rw'.imm (Tups.cut h1)) reps_nil)
  · exact q D H' (fresh_back e1 hD) (e1.trans z.1) z.2
theorem el_rfilter {n : Int} {ta : TE} {f : Nat → β} {p : Nat → Bool} [Flat β] (h : ER K ta σ H n) (hn0 : 0 ≤ n) (hz : n ≤ 100000) (ht : ∀ (k : Nat) H', (k : Int) < n → Ex H H' → ET K tt ((wipe σ [i]).set i (some (.int k))) H' (p k))
    (he : ∀ (k : Nat) H', (k : Int) < n → p k = true → Ex H H' → ER K te ((wipe σ [i]).set i (some (.int k))) H' (f k)) :
    EL K (tLc (iRng1 (tCons ta tNil)) (gName i) tt te [i]) σ H (((List.range n.toNat).filter p).map f) := fun H0 e0 Q q => h.evI H0 e0 _ fun H1 e1 => by
  refine ⟨n, rfl, by omega, by omega, fun D hD => lc_range (lo := 0) (n := n.toNat) (fun j H' => Ex H1 H' ∧ Own K H' D (((List.range j).filter p).map f)) ⟨Evl.Ex.new hD, by simpa using Own.nil⟩ (fun j H' hj z => ?_) (fun H' z => ?_)⟩
  · rw [Int.zero_add]
    refine ⟨wipe1 _, ht j H' (by omega) (e0.trans (e1.trans z.1)) H' (Ex.refl H') _ fun H2 e2 => ?_⟩
    cases hp : p j with
    | false =>
      refine (if_neg Bool.false_ne_true).mpr ⟨z.1.trans e2, ?_⟩
      rw [List.range_succ, List.filter_append, List.filter_cons_of_neg (by simp [hp]), List.filter_nil, List.append_nil]
      exact z.2.mono e2
    | true =>
      refine (if_pos rfl).mpr (he j H2 (by omega) hp (e0.trans ((e1.trans z.1).trans e2)) H2 (Ex.refl H2) _ fun w H3 e3 rw' => ?_)
      obtain ⟨acc, h1, r1⟩ := (z.2.mono (e2.trans e3)).ex
      refine ⟨acc, h1, Evl.sz_lt ?_, ex_mut (z.1.trans (e2.trans e3)) hD, acc ++ [w], upd_same, ?_⟩
      · rw [r1.len, List.length_map]
        have := List.length_filter_le p (List.range j)
        rw [List.length_range] at this
        omega
      · rw [cut_upd, List.range_succ, List.filter_append, List.filter_cons_of_pos (by simp [hp]), List.filter_nil, List.map_append]
        exact r1.append (Reps.cons (rw'.imm (Tups.cut h1)) reps_nil)
  · exact q D H' (fresh_back e1 hD) (e1.trans z.1) z.2
end
end Z
set_option Elab.async false
set_option linter.all false
set_option maxRecDepth 100000
set_option maxHeartbeats 2000000
set_option autoImplicit false
namespace Z
open PySem L2
open Evl (Ex)
open Dat
section
variable {K : PySem.W.Frag} {α β γ δ : Type} [Dat α] [Dat β] [Dat γ] [Dat δ] {σ : L2.St} {G H H' : Hp} {te ta tb tc td : TE} {tt tu : TT} {i j : Int}
theorem er_add (ha : ER K ta σ H i) (hb : ER K tb σ H j) : ER K (tOp (rI0 fun a b => .int (a + b)) ta tb) σ H (i + j) := er_I0 (g := fun a b => a + b) ha hb
theorem er_sub (ha : ER K ta σ H i) (hb : ER K tb σ H j) : ER K (tOp (rI0 fun a b => .int (a - b)) ta tb) σ H (i - j) := er_I0 (g := fun a b => a - b) ha hb
theorem er_mul (ha : ER K ta σ H i) (hb : ER K tb σ H j) (hc : CMul i j) : ER K (tOp (rI CMul fun a b => .int (a * b)) ta tb) σ H (i * j) := er_I (g := fun a b => a * b) ha hb hc
theorem er_fdiv (ha : ER K ta σ H i) (hb : ER K tb σ H j) (hc : CDiv i j) : ER K (tOp (rI CDiv fun a b => .int (a / b)) ta tb) σ H (i / j) := er_I (g := fun a b => a / b) ha hb hc
theorem er_mod (ha : ER K ta σ H i) (hb : ER K tb σ H j) (hc : 0 < j) : ER K (tOp (rI (fun _ j => 0 < j) fun a b => .int (a % b)) ta tb) σ H (i % j) := er_I (g := fun a b => a % b) ha hb hc
theorem er_pow (ha : ER K ta σ H i) (hb : ER K tb σ H j) (hc : CPow i j) : ER K (tOp (rI CPow fun a b => .int (a ^ b.toNat)) ta tb) σ H (i ^ j.toNat) := er_I (g := fun a b => a ^ b.toNat) ha hb hc
theorem er_lt (ha : ER K ta σ H i) (hb : ER K tb σ H j) : ER K (tOp (rI0 fun a b => .bl (decide (a < b))) ta tb) σ H (decide (i < j)) := er_IB (g := fun a b => decide (a < b)) ha hb
theorem er_le (ha : ER K ta σ H i) (hb : ER K tb σ H j) : ER K (tOp (rI0 fun a b => .bl (decide (a ≤ b))) ta tb) σ H (decide (i ≤ j)) := er_IB (g := fun a b => decide (a ≤ b)) ha hb
theorem er_gt (ha : ER K ta σ H i) (hb : ER K tb σ H j) : ER K (tOp (rI0 fun a b => .bl (decide (b < a))) ta tb) σ H (decide (j < i)) := er_IB (g := fun a b => decide (b < a)) ha hb
theorem er_ge (ha : ER K ta σ H i) (hb : ER K tb σ H j) : ER K (tOp (rI0 fun a b => .bl (decide (b ≤ a))) ta tb) σ H (decide (j ≤ i)) := er_IB (g := fun a b => decide (b ≤ a)) ha hb
theorem er_isN : ER K ta σ H () → ER K (tOp (fun x y H Q => y = .non ∧ Q (.bl (decide (x = .non))) H) ta (tC .non)) σ H true := fun ha H1 e Q q => ha H1 e _ fun v H2 e2 r => ⟨rfl, by rw [(Rep.unit r)]; exact q _ H2 e2 (rep_bool _)⟩
/-- a list of ints that is read, the script -/
theorem er_seqix {xs : List Int} {a : Addr} (hs : SqL K G a (xs.map V.int)) (e : Ex G H) (ha : EV K ta σ H (.ref a)) (hb : ER K tb σ H i) {x : Int} (hx : atI xs i = some x) : ER K (tOp (rIxL K) ta tb) σ H x :=
  er_ixL (xs := xs) (ha.er (rep_list (Evl.ex_l e hs) (reps_ints xs))) hb hx
theorem atI_map {xs : List α} {f : α → β} {i : Int} {x : α} (h : atI xs i = some x) : atI (xs.map f) i = some (f x) := by
  unfold atI at h ⊢
  rw [List.length_map]
  cases e : ixN xs.length i with
  | none => rw [e] at h; cases h
  | some j =>
    rw [e] at h
    show (xs.map f)[j]? = some (f x)
    rw [List.getElem?_map, show xs[j]? = some x from h]
    rfl
theorem atI_nn {xs : List α} {i : Int} (h0 : 0 ≤ i) (h1 : i < xs.length) : ∃ x, atI xs i = some x ∧ xs[i.toNat]? = some x := by
  have hl : i.toNat < xs.length := by omega
  refine ⟨xs[i.toNat], ?_, by simp [hl]⟩
  have e : ixN xs.length i = some i.toNat := by
    unfold ixN
    rw [if_pos h0, if_pos h1]
  unfold atI
  rw [e]
  simp [hl]
theorem atI_toNat {xs : List α} {i : Int} {x : α} (h0 : 0 ≤ i) (h : xs[i.toNat]? = some x) : atI xs i = some x := by
  have hl := (List.getElem?_eq_some_iff.mp h).1
  have e : ixN xs.length i = some i.toNat := by
    unfold ixN
    rw [if_pos h0, if_pos (by omega)]
  unfold atI
  rw [e]
  exact h
theorem atI_m1 {xs : List α} {x : α} (h : xs.getLast? = some x) : atI xs (-1) = some x := by
  have hne : xs ≠ [] := by intro e; rw [e] at h; cases h
  obtain ⟨ys, rfl⟩ : ∃ ys, xs = ys ++ [x] := by
    refine ⟨xs.dropLast, ?_⟩
    have e := List.dropLast_concat_getLast hne
    rw [List.getLast?_eq_some_getLast hne] at h
    rw [← Option.some.inj h]
    exact e.symm
  exact atI_last ys x
/-! ### isinstance -/
theorem kitOf {a b : String} {r : Bool} (h : kitB a b = some r) : PySem.W.kitOne K (.type a) (.type b) = some r := kit_ty h
theorem tyx_list {v : V} {xs : List α} (h : Rep K H v xs) : TyX K H v (.type "list") := by
  obtain ⟨a, vs, rfl, s, _⟩ := h.list
  rcases s with (s | ⟨o, s⟩) | ⟨o, its, n, s, c, _⟩
  · exact .base (.lst s)
  · exact .base (.frz s)
  · exact .kList s c
theorem tyx_tup {v : V} {xs : Tp α} (h : Rep K H v xs) : TyX K H v (.type "tuple") := by
  obtain ⟨a, vs, rfl, s, _⟩ := h.tup
  rcases s with (s | ⟨o, s⟩) | ⟨o, its, n, s, c, _⟩
  · exact .base (.tup s)
  · exact .fTuple s
  · exact .kTuple s c
theorem tyx_pair {v : V} {x : α × β} (h : Rep K H v x) : TyX K H v (.type "tuple") := by
  obtain ⟨a, u, w, rfl, s, _⟩ := h.pair
  rcases s with (s | ⟨o, s⟩) | ⟨o, its, n, s, c, _⟩
  · exact .base (.tup s)
  · exact .fTuple s
  · exact .kTuple s c
theorem tyx_int {v : V} {x : Int} (h : Rep K H v x) : TyX K H v (.type "int") := by rw [h.int]; exact .base (.int x)
theorem tyx_bool {v : V} {x : Bool} (h : Rep K H v x) : TyX K H v (.type "bool") := by rw [h.bool]; exact .base (.bl x)
theorem tyx_str {v : V} {x : Str} (h : Rep K H v x) : TyX K H v (.type "str") := by rw [h.str]; exact .base (.str x)
theorem er_isi {x : α} {n m : String} {b : Bool} (ty : ∀ H v, Rep K H v x → TyX K H v (.type n)) (hk : kitB n m = some b) (ha : ER K ta σ H x) : ER K (tCB (rIsi K) (tCons ta (tCons (tC (.ty m)) tNil))) σ H b := fun H1 e Q q =>
  ha H1 e _ fun v H2 e2 r => ⟨v, .ty m, .type n, .type m, b, rfl, .ty m, ty H2 v r, kitOf hk, q _ H2 e2 (rep_bool _)⟩
theorem er_isi_list {xs : List α} (ha : ER K ta σ H xs) : ER K (tCB (rIsi K) (tCons ta (tCons (tC (.ty "list")) tNil))) σ H true := er_isi (fun _ _ => tyx_list) (by decide +kernel) ha
theorem er_isi_tup {xs : Tp α} (ha : ER K ta σ H xs) : ER K (tCB (rIsi K) (tCons ta (tCons (tC (.ty "tuple")) tNil))) σ H true := er_isi (fun _ _ => tyx_tup) (by decide +kernel) ha
theorem er_isi_pair {x : α × β} (ha : ER K ta σ H x) : ER K (tCB (rIsi K) (tCons ta (tCons (tC (.ty "tuple")) tNil))) σ H true := er_isi (fun _ _ => tyx_pair) (by decide +kernel) ha
theorem er_isi_int (ha : ER K ta σ H i) : ER K (tCB (rIsi K) (tCons ta (tCons (tC (.ty "int")) tNil))) σ H true := er_isi (fun _ _ => tyx_int) (by decide +kernel) ha
theorem er_isi_intb (ha : ER K ta σ H i) : ER K (tCB (rIsi K) (tCons ta (tCons (tC (.ty "bool")) tNil))) σ H false := er_isi (fun _ _ => tyx_int) (by decide +kernel) ha
theorem er_isi_bool {b : Bool} (ha : ER K ta σ H b) : ER K (tCB (rIsi K) (tCons ta (tCons (tC (.ty "bool")) tNil))) σ H true := er_isi (fun _ _ => tyx_bool) (by decide +kernel) ha
theorem er_isi_booli {b : Bool} (ha : ER K ta σ H b) : ER K (tCB (rIsi K) (tCons ta (tCons (tC (.ty "int")) tNil))) σ H true := er_isi (fun _ _ => tyx_bool) (by decide +kernel) ha
/-! ### [x] * n -/
theorem el_rep1 {x : α} {n : Int} (ha : EL K ta σ H [x]) (hb : ER K tb σ H n) (h0 : n ≤ 100000) (h1 : -100000 ≤ n) : EL K (tOp rRep ta tb) σ H (List.replicate n.toNat x) := fun H1 e Q q =>
  ha H1 e _ fun p H2 hp e2 o => hb.evI H2 (e.trans e2) _ fun H3 e3 => by
    obtain ⟨vs, h, r⟩ := (o.mono e3).ex
    obtain ⟨v, ws, rfl, r1, r2⟩ := Reps.inv r
    obtain rfl := Reps.nilI r2
    refine ⟨p, n, [v], rfl, rfl, h, by omega, by omega, Evl.sz_of (by rw [List.length_singleton]; omega), fun t ht => q t _ (fresh_back (e2.trans e3) ht) ((e2.trans e3).trans (Evl.Ex.new ht)) ⟨_, upd_same, ?_⟩⟩
    rw [cut_updn ht]
    have r1' := r1.mono (cut_ex (H := H3) (p := p))
    generalize n.toNat = k
    induction k with
    | zero => exact reps_nil
    | succ k ih =>
      rw [List.replicate_succ, List.replicate_succ, List.flatten_cons]
      exact Reps.append (Reps.cons r1' reps_nil) ih
end
/-! ### equality of data -/
section
variable {α : Type} [Dat α]
theorem eqvAll_map [DecidableEq α] [DatEq α] : ∀ xs ys : List α, PyData.eqvAll (xs.map enc) (ys.map enc) = decide (xs = ys)
  | [], [] => by simp [PyData.eqvAll]
  | [], y :: ys => by simp [PyData.eqvAll]
  | x :: xs, [] => by simp [PyData.eqvAll]
  | x :: xs, y :: ys => by
    show (PyData.eqv (enc x) (enc y) && PyData.eqvAll (xs.map enc) (ys.map enc)) = _
    rw [DatEq.eqv, eqvAll_map xs ys]
    by_cases h : x = y <;> by_cases h' : xs = ys <;> simp [h, h']
theorem lay_map [DecidableEq α] [DatEq α] : ∀ xs : List α, PyData.canLayAll0 (xs.map enc) = true
  | [] => rfl
  | x :: xs => by
    show ((enc x).canLay0 && PyData.canLayAll0 (xs.map enc)) = true
    rw [DatEq.lay, lay_map xs] <;> rfl
end
instance : DatEq Int := ⟨fun _ => rfl, fun x y => by
  show PyData.eqv (.int x) (.int y) = _
  simp [PyData.eqv, Bool.beq_eq_decide_eq]⟩
instance : DatEq Bool := ⟨fun _ => rfl, fun x y => by
  show PyData.eqv (.bool x) (.bool y) = _
  simp [PyData.eqv, Bool.beq_eq_decide_eq]⟩
instance {α : Type} [Dat α] [DecidableEq α] [DatEq α] : DatEq (List α) := ⟨fun xs => by
  show (PyData.list (xs.map enc)).canLay0 = true
  exact lay_map xs, fun xs ys => by
  show PyData.eqv (.list (xs.map enc)) (.list (ys.map enc)) = _
  rw [PyData.eqv]
  exact eqvAll_map xs ys⟩
instance {α : Type} [Dat α] [DecidableEq α] [DatEq α] : DatEq (Tp α) := ⟨fun xs => by
  show (PyData.tuple (List.map enc xs)).canLay0 = true
  exact lay_map (α := α) xs, fun xs ys => by
  show PyData.eqv (.tuple (List.map enc xs)) (.tuple (List.map enc ys)) = _
  rw [PyData.eqv]
  exact eqvAll_map (α := α) xs ys⟩
instance {α β : Type} [Dat α] [Dat β] [DecidableEq α] [DecidableEq β] [DatEq α] [DatEq β] : DatEq (α × β) := ⟨fun x => by
  show ((enc x.1).canLay0 && ((enc x.2).canLay0 && true)) = true
  rw [DatEq.lay, DatEq.lay] <;> rfl, fun x y => by
  show PyData.eqv (.tuple [enc x.1, enc x.2]) (.tuple [enc y.1, enc y.2]) = _
  rw [PyData.eqv]
  show (PyData.eqv (enc x.1) (enc y.1) && (PyData.eqv (enc x.2) (enc y.2) && true)) = _
  rw [DatEq.eqv, DatEq.eqv]
  obtain ⟨x1, x2⟩ := x
  obtain ⟨y1, y2⟩ := y
  by_cases h : x1 = y1 <;> by_cases h' : x2 = y2 <;> simp [h, h']⟩
theorem depth_map {α : Type} [Dat α] {n : Nat} [Deep α n] : ∀ xs : List α, PyData.depthAll (xs.map enc) ≤ n
  | [] => by
    show PyData.depthAll [] ≤ n
    rw [PyData.depthAll]
    exact Nat.zero_le _
  | x :: xs => by
    show PyData.depthAll (enc x :: xs.map enc) ≤ n
    rw [PyData.depthAll]
    exact Nat.max_le.mpr ⟨Deep.dep x, depth_map xs⟩
instance : Deep Int 0 := ⟨fun x => by
  show PyData.depth (.int x) ≤ 0
  rw [PyData.depth]
  exact Nat.le_refl _⟩
instance : Deep Bool 0 := ⟨fun x => by
  show PyData.depth (.bool x) ≤ 0
  rw [PyData.depth]
  exact Nat.le_refl _⟩
instance : Deep Str 0 := ⟨fun x => by
  show PyData.depth (.str x) ≤ 0
  rw [PyData.depth]
  exact Nat.le_refl _⟩
instance {α : Type} [Dat α] {n : Nat} [Deep α n] : Deep (List α) (n + 1) := ⟨fun xs => by
  show PyData.depth (.list (xs.map enc)) ≤ n + 1
  rw [PyData.depth]
  exact Nat.succ_le_succ (depth_map xs)⟩
instance {α : Type} [Dat α] {n : Nat} [Deep α n] : Deep (Tp α) (n + 1) := ⟨fun xs => by
  show PyData.depth (.tuple (List.map enc xs)) ≤ n + 1
  rw [PyData.depth]
  exact Nat.succ_le_succ (depth_map (α := α) xs)⟩
instance {α β : Type} [Dat α] [Dat β] {n m : Nat} [Deep α n] [Deep β m] : Deep (α × β) (max n m + 1) := ⟨fun x => by
  show PyData.depth (.tuple [enc x.1, enc x.2]) ≤ max n m + 1
  rw [PyData.depth, PyData.depthAll, PyData.depthAll, PyData.depthAll]
  have h1 := Deep.dep (n := n) x.1
  have h2 := Deep.dep (n := m) x.2
  omega⟩
end Z
set_option Elab.async false
set_option linter.all false
set_option maxRecDepth 100000
set_option maxHeartbeats 2000000
set_option autoImplicit false
namespace Z
open PySem L2
open Evl (Ex)
open Dat
section
variable {K : PySem.W.Frag} {α β γ δ : Type} [Dat α] [Dat β] [Dat γ] [Dat δ] {σ : L2.St} {G H H' : Hp} {te ta tb tc td : TE} {tt tu : TT} {i j : Int} {t u : TS} {D : Ends}
theorem dpall_get {vs : List V} {ds : List PyData} (h : DpAll K H vs ds) {j : Nat} {d : PyData} (hd : ds[j]? = some d) : ∃ v, vs[j]? = some v ∧ Dp K H v d := by
  induction vs generalizing ds j with
  | nil => cases h; cases hd
  | cons v vs ih =>
    cases h with
    | cons h1 h2 =>
      cases j with
      | zero => cases hd; exact ⟨v, rfl, h1⟩
      | succ j => exact ih h2 hd
theorem dpall_at {vs : List V} {ds : List PyData} (h : DpAll K H vs ds) {i : Int} {d : PyData} (hd : atI ds i = some d) : ∃ v, atI vs i = some v ∧ Dp K H v d := by
  unfold atI at hd ⊢
  rw [DpAll.len h]
  cases e : ixN ds.length i with
  | none => rw [e] at hd; cases hd
  | some j =>
    rw [e] at hd
    exact dpall_get h hd
/-- a list that stands tracked, new or held -/
def EM (K : PySem.W.Frag) (te : TE) (σ : L2.St) (H : Hp) (xs : List α) : Prop := ∀ H1, Ex H H1 → ∀ Q : VK, (∀ p H2, Ex H1 H2 → Own K H2 p xs → Q (.ref p) H2) → te σ H1 Q
theorem EL.em {xs : List α} (h : EL K te σ H xs) : EM K te σ H xs := fun H1 e Q q => h H1 e Q fun p H2 _ e2 o => q p H2 e2 o
theorem em_own {n : Nat} {p : Addr} {xs : List α} (h : σ[n]? = some (some (.ref p))) (r : Own K G p xs) (e : Ex G H) : EM K (tVar n) σ H xs := fun H1 e1 Q q => ⟨_, h, q p H1 (Ex.refl H1) (r.mono (e.trans e1))⟩
theorem el_add {xs ys : List α} (ha : EM K ta σ H xs) (hb : EM K tb σ H ys) (hl : xs.length + ys.length ≤ 100000) : EL K (tOp rCat ta tb) σ H (xs ++ ys) := fun H1 e Q q =>
  ha H1 e _ fun p H2 e2 o => hb H2 (e.trans e2) _ fun r H3 e3 o2 => by
    obtain ⟨vs, h1, r1⟩ := (o.mono e3).ex
    obtain ⟨ws, h2, r2⟩ := o2.ex
    refine ⟨p, r, vs, ws, rfl, rfl, h1, h2, Evl.sz_of (by rw [r1.len, r2.len]; exact hl), fun t ht => q t _ (fresh_back (e2.trans e3) ht) ((e2.trans e3).trans (Evl.Ex.new ht)) ⟨_, upd_same, ?_⟩⟩
    rw [cut_updn ht]
    exact (r1.mono cut_ex).append (r2.mono cut_ex)
/-- truth of a list -/
theorem et_truL {xs : List α} (h : ER K te σ H xs) : ET K (fun σ H Q => te σ H fun x H' => ∃ k, TruV K x H' k ∧ Q k H') σ H (!xs.isEmpty) := fun H1 e Q q => h H1 e _ fun v H2 e2 r => by
  obtain ⟨a, vs, rfl, s, r⟩ := Rep.list r
  refine ⟨_, .inl ⟨vs, s, rfl⟩, ?_⟩
  have : vs.isEmpty = xs.isEmpty := by
    have e := r.len
    cases vs <;> cases xs <;> first | rfl | simp at e
  rw [this]
  exact q H2 e2
theorem et_orU {a b : Bool} (h1 : ET K tt σ H a) (h2 : ET K tu σ H b) : ET K (tOr tt tu) σ H (a || b) := et_or h1 fun _ => h2
theorem et_andU {a b : Bool} (h1 : ET K tt σ H a) (h2 : ET K tu σ H b) : ET K (tAnd tt tu) σ H (a && b) := et_and h1 fun _ => h2
theorem er_orU {a b : Bool} (h1 : ER K ta σ H a) (h2 : ER K tb σ H b) : ER K (tOrV ta tb) σ H (a || b) := er_orV h1 fun _ => h2
theorem er_andU {a b : Bool} (h1 : ER K ta σ H a) (h2 : ER K tb σ H b) : ER K (tAndV ta tb) σ H (a && b) := er_andV h1 fun _ => h2
/-! ### with no word of the type: the shape of the datum says it -/
theorem dl_tyx {v : V} {ds : List PyData} (h : Dp K H v (.list ds)) : TyX K H v (.type "list") := by
  cases h with
  | lst s r =>
    rcases s with (s | ⟨o, s⟩) | ⟨o, its, n, s, c, _⟩
    · exact .base (.lst s)
    · exact .base (.frz s)
    · exact .kList s c
theorem dt_tyx {v : V} {ds : List PyData} (h : Dp K H v (.tuple ds)) : TyX K H v (.type "tuple") := by
  cases h with
  | tup s r =>
    rcases s with (s | ⟨o, s⟩) | ⟨o, its, n, s, c, _⟩
    · exact .base (.tup s)
    · exact .fTuple s
    · exact .kTuple s c
theorem ed_isi {d : PyData} {n m : String} {b : Bool} (ty : ∀ H v, Dp K H v d → TyX K H v (.type n)) (hk : kitB n m = some b) (ha : ED K ta σ H d) : ER K (tCB (rIsi K) (tCons ta (tCons (tC (.ty m)) tNil))) σ H b := fun H1 e Q q =>
  ha H1 e _ fun v H2 e2 r => ⟨v, .ty m, .type n, .type m, b, rfl, .ty m, ty H2 v r, kitOf hk, q _ H2 e2 (rep_bool _)⟩
theorem ed_isi_list {ds : List PyData} (ha : ED K ta σ H (.list ds)) : ER K (tCB (rIsi K) (tCons ta (tCons (tC (.ty "list")) tNil))) σ H true := ed_isi (fun _ _ => dl_tyx) (by decide +kernel) ha
theorem ed_isi_tup {ds : List PyData} (ha : ED K ta σ H (.tuple ds)) : ER K (tCB (rIsi K) (tCons ta (tCons (tC (.ty "tuple")) tNil))) σ H true := ed_isi (fun _ _ => dt_tyx) (by decide +kernel) ha
theorem ed_ixL {ds : List PyData} {k : Int} {d : PyData} (ha : ED K ta σ H (.list ds)) (hb : ER K tb σ H k) (hx : atI ds k = some d) : ED K (tOp (rIxL K) ta tb) σ H d := fun H1 e Q q =>
  ha H1 e _ fun v H2 e2 r => hb.evI H2 (e.trans e2) _ fun H3 e3 => by
    cases r with
    | lst s r =>
      obtain ⟨w, hw, rw'⟩ := dpall_at r hx
      exact ⟨_, _, k, w, rfl, rfl, Evl.ex_l e3 s, hw, q _ H3 (e2.trans e3) (dp_mono e3 _ _ rw')⟩
theorem ed_ixT {ds : List PyData} {k : Int} {d : PyData} (ha : ED K ta σ H (.tuple ds)) (hb : ER K tb σ H k) (hx : atI ds k = some d) : ED K (tOp (rIxT K) ta tb) σ H d := fun H1 e Q q =>
  ha H1 e _ fun v H2 e2 r => hb.evI H2 (e.trans e2) _ fun H3 e3 => by
    cases r with
    | tup s r =>
      obtain ⟨w, hw, rw'⟩ := dpall_at r hx
      exact ⟨_, _, k, w, rfl, rfl, Evl.ex_t e3 s, hw, q _ H3 (e2.trans e3) (dp_mono e3 _ _ rw')⟩
theorem atI_mapE {α : Type} {xs : List α} {f : α → PyData} {i : Int} {x : α} {d : PyData} (h : atI xs i = some x) (e : f x = d) : atI (xs.map f) i = some d := by
  unfold atI at h ⊢
  rw [List.length_map]
  cases q : ixN xs.length i with
  | none => rw [q] at h; cases h
  | some j =>
    rw [q] at h
    show (xs.map f)[j]? = some d
    have h : xs[j]? = some x := h
    rw [List.getElem?_map, h, ← e]
    rfl
/-! ### tests whose answer is known -/
theorem q_ifF {b : Bool} (h : ET K tt σ H b) (hb : b = false) (k : ∀ H', Ex H H' → u D σ H') : tSeq (tIfS tt t tNext) u D σ H := q_if h (fun z => absurd z (by rw [hb]; decide)) fun _ => k
theorem q_ifT {b : Bool} (h : ET K tt σ H b) (hb : b = true) (k : ∀ H', Ex H H' → t { D with nx := u D } σ H') : tSeq (tIfS tt t tNext) u D σ H := q_if h (fun _ => k) fun z => absurd z (by rw [hb]; decide)
theorem s_ifF {b : Bool} (h : ET K tt σ H b) (hb : b = false) (k : ∀ H', Ex H H' → u D σ H') : tIfS tt t u D σ H := s_if h (fun z => absurd z (by rw [hb]; decide)) fun _ => k
theorem s_ifT {b : Bool} (h : ET K tt σ H b) (hb : b = true) (k : ∀ H', Ex H H' → t D σ H') : tIfS tt t u D σ H := s_if h (fun _ => k) fun z => absurd z (by rw [hb]; decide)
theorem atI_ofN {xs : List α} {k : Nat} {x : α} (h : xs[k]? = some x) : atI xs (k : Int) = some x := by
  have hl : k < xs.length := (List.getElem?_eq_some_iff.mp h).1
  unfold atI ixN
  rw [if_pos (Int.natCast_nonneg k), if_pos (by omega)]
  exact h
theorem atI_ex {α : Type} {xs : List α} {k : Nat} (h : k < xs.length) : ∃ x, x ∈ xs ∧ xs[k]? = some x ∧ atI xs (k : Int) = some x := by
  refine ⟨xs[k], List.getElem_mem h, List.getElem?_eq_getElem h, ?_⟩
  unfold atI ixN
  rw [if_pos (Int.natCast_nonneg k), if_pos (by omega)]
  exact List.getElem?_eq_getElem h
theorem atI_last {xs : List α} (h : 0 < xs.length) : ∃ x, atI xs (-1) = some x ∧ xs.getLast? = some x := by
  refine ⟨xs[xs.length - 1]'(by omega), ?_, ?_⟩
  · unfold atI ixN
    rw [if_neg (by decide), if_pos (by omega)]
    rw [show (-1 + (xs.length : Int)).toNat = xs.length - 1 by omega]
    exact List.getElem?_eq_getElem (by omega)
  · rw [List.getLast?_eq_getElem?]
    exact List.getElem?_eq_getElem (by omega)
/-! ### fields -/
theorem ev_fld {a C dx : Addr} {fs : List (Str × V)} {f : Str} {v : V} (h : EV K te σ H (.ref a)) (ha : G a = some (.ins C dx fs)) (e : Ex G H) (cl : Cls K C) (na : NoAttr K C f) (hl : fs.lookup f = some v) : EV K (tFld K te f) σ H v := fun H1 e1 Q q =>
  h H1 e1 _ fun H2 e2 => ⟨a, C, dx, fs, v, rfl, (e.trans (e1.trans e2)) _ _ ha, cl, na, hl, q H2 e2⟩
theorem em_fld {a C dx l : Addr} {fs : List (Str × V)} {f : Str} {xs : List α} (h : EV K te σ H (.ref a)) (ha : G a = some (.ins C dx fs)) (e : Ex G H) (cl : Cls K C) (na : NoAttr K C f) (hl : fs.lookup f = some (.ref l)) (o : Own K G l xs) : EM K (tFld K te f) σ H xs := fun H1 e1 Q q =>
  ev_fld h ha e cl na hl H1 e1 _ fun H2 e2 => q l H2 e2 (o.mono (e.trans (e1.trans e2)))
theorem EM.er {xs : List α} (h : EM K te σ H xs) : ER K te σ H xs := fun H1 e Q q => h H1 e Q fun p H2 e2 o => q _ H2 e2 o.rep
/-! ### for i, x in enumerate(xs) -/
theorem s_enum {xs : List α} {m n : Nat} {tb : TS} (h : ER K te σ H xs) (k : ∀ a vs H1, Ex H H1 → SqL K H1 a vs → Reps K H1 vs xs → ∃ (G : Hp) (J : Nat → L2.St → Hp → Prop), Ex G H1 ∧ SqL K G a vs ∧ Reps K G vs xs ∧ J 0 σ H1 ∧
      (∀ i x w σ' H' H'', xs[i]? = some x → Ex G H' → Ex H' H'' → Rep K G w x → J i σ' H' → tb { D with nx := fun σ3 H3 => Ex G H3 ∧ J (i + 1) σ3 H3, ct := fun σ3 H3 => Ex G H3 ∧ J (i + 1) σ3 H3, bk := D.nx } ((σ'.set m (some (.int (i : Nat)))).set n (some w)) H'') ∧
      (∀ σ' H', Ex G H' → J xs.length σ' H' → D.nx σ' H')) : tFor (iEnum K (tCons te tNil)) (gTup K 2 (gCons (gName m) (gCons (gName n) gNil))) tb D σ H := h H (Ex.refl H) _ fun v H1 e1 r => by
  obtain ⟨a, vs, rfl, s, r⟩ := Rep.list r
  obtain ⟨G, J, eG, sG, rG, j0, js, jd⟩ := k a vs H1 e1 s r
  have hl := rG.len
  refine ⟨a, vs, rfl, s, fun i k' σ' H' => k' = xs.length - i ∧ i ≤ xs.length ∧ Ex G H' ∧ J i σ' H', ⟨_, rfl, Nat.zero_le _, eG, j0⟩, ?_⟩
  rintro i k' σ' H' ⟨rfl, hi, eH, j⟩
  have q := Evl.ex_l eH sG
  by_cases hlt : i < xs.length
  · refine .inr ⟨⟨vs, vs[i]'(by omega), q, by simp [hl, hlt]⟩, fun σ3 H3 => Ex G H3 ∧ J (i + 1) σ3 H3, fun σ3 H3 z => ⟨_, by omega, rfl, hlt, z.1, z.2⟩, ?_⟩
    rintro y H2 ⟨T, x, rfl, hT, rfl, hx⟩
    obtain ⟨z, hz, rz⟩ := rG.got (hx vs q)
    have eT : Ex H' (upd H' T (.tup [.int (i : Nat), x])) := Evl.Ex.new hT
    exact ⟨T, _, rfl, SqT.of upd_same, rfl, _, _, rfl, _, _, rfl, rfl, js i z x σ' H' _ hz eH eT rz j⟩
  · have e : i = xs.length := by omega
    subst e
    exact .inl ⟨⟨vs, q, by omega⟩, jd σ' H' eH j⟩
/-! ### a while -/
theorem s_while (J : L2.St → Hp → Prop) (μ : L2.St → Hp → Nat) {tb : TS} (j0 : J σ H) (js : ∀ σ' H', J σ' H' → ∃ b, ET K tt σ' H' b ∧ (b = true → ∀ H2, Ex H' H2 → tb { D with nx := fun σ3 H3 => J σ3 H3 ∧ μ σ3 H3 < μ σ' H', ct := fun σ3 H3 => J σ3 H3 ∧ μ σ3 H3 < μ σ' H', bk := D.nx } σ' H2) ∧ (b = false → ∀ H2, Ex H' H2 → D.nx σ' H2)) :
    tWhile tt tb D σ H := by
  refine ⟨fun m σ' H' => m = μ σ' H' ∧ J σ' H', ⟨_, rfl, j0⟩, ?_⟩
  rintro m σ' H' ⟨rfl, j⟩
  obtain ⟨b, hb, h1, h2⟩ := js σ' H' j
  refine hb H' (Ex.refl H') _ fun H2 e2 => ?_
  cases b with
  | true =>
    rw [if_pos rfl]
    exact ⟨fun σ3 H3 => J σ3 H3 ∧ μ σ3 H3 < μ σ' H', fun σ3 H3 z => ⟨_, z.2, rfl, z.1⟩, h1 rfl H2 e2⟩
  | false =>
    rw [if_neg Bool.false_ne_true]
    exact h2 rfl H2 e2
/-! ### stores -/
/-- xs[i] = e, xs a name -/
theorem s_put {n : Nat} {p : Addr} {xs : List α} {x : α} {k : Int} {j : Nat} (hσ : σ[n]? = some (some (.ref p))) (ho : Own K H p xs) (h : ER K te σ H x) [Flat α] (hi : ∀ H1, Ex H H1 → EV K tb σ H1 (.int k)) (hj : ixN xs.length k = some j)
    (c : ∀ H', (∀ G, Ex G H → G p = none → Ex G H') → Tups H H' → Own K H' p (xs.set j x) → D.nx σ H') : tAsg te (gSub (tVar n) tb rSetL) D σ H := h H (Ex.refl H) _ fun v H1 e1 r => ⟨_, hσ, hi H1 e1 H1 (Ex.refl H1) _ fun H2 e2 => by
  obtain ⟨vs, h1, r1⟩ := (ho.mono (e1.trans e2)).ex
  refine ⟨p, vs, k, j, rfl, rfl, h1, by rw [r1.len]; exact hj, c _ (fun G eG hG => ex_mut (eG.trans (e1.trans e2)) hG) ((Tups.ex (e1.trans e2)).trans (Tups.upd h1)) ⟨_, upd_same, ?_⟩⟩
  rw [cut_upd]
  exact r1.set j ((r.mono e2).imm (Tups.cut h1))⟩
theorem q_put {n : Nat} {p : Addr} {xs : List α} {x : α} {k : Int} {j : Nat} (hσ : σ[n]? = some (some (.ref p))) (ho : Own K H p xs) (h : ER K te σ H x) [Flat α] (hi : ∀ H1, Ex H H1 → EV K tb σ H1 (.int k)) (hj : ixN xs.length k = some j)
    (c : ∀ H', (∀ G, Ex G H → G p = none → Ex G H') → Tups H H' → Own K H' p (xs.set j x) → u D σ H') : tSeq (tAsg te (gSub (tVar n) tb rSetL)) u D σ H := s_put (D := { D with nx := u D }) hσ ho h hi hj c
theorem ixN_m1 {n : Nat} (h : 0 < n) : ixN n (-1) = some (n - 1) := by
  unfold ixN
  rw [if_neg (by decide), if_pos (by omega)]
  congr 1
  omega
theorem ixN_nn {n : Nat} {k : Int} (h0 : 0 ≤ k) (h1 : k < n) : ixN n k = some k.toNat := by
  unfold ixN
  rw [if_pos h0, if_pos h1]
/-- what an owned list keeps through a change at another one -/
theorem Own.other {p q : Addr} {xs : List α} {o : HO} [Flat α] {ws : List V} (h : Own K H p xs) (hq : H q = some (.lst ws)) (ne : q ≠ p) : Own K (upd H q o) p xs := by
  obtain ⟨vs, h1, r1⟩ := h.ex
  refine ⟨vs, by rw [upd_ne (Ne.symm ne)]; exact h1, ?_⟩
  have hc : cut H p q = some (.lst ws) := by rw [cut_ne ne]; exact hq
  rw [cut_upd_ne ne]
  exact r1.imm (Tups.upd hc)
end
end Z
set_option Elab.async false
set_option linter.all false
set_option maxRecDepth 100000
set_option maxHeartbeats 2000000
set_option autoImplicit false
namespace Z
open PySem L2
open Evl (Ex)
open Dat
section
variable {K : PySem.W.Frag} {α β : Type} [Dat α] [Dat β] {σ : L2.St} {G H : Hp} {te : TE} {tt : TT} {t u : TS} {D : Ends} {i : Nat}
theorem q_for {xs : List α} {g : TG} {tb : TS} (h : ER K te σ H xs) (k : ∀ a vs H1, Ex H H1 → SqL K H1 a vs → Reps K H1 vs xs → ∃ (G : Hp) (J : Nat → L2.St → Hp → Prop), Ex G H1 ∧ SqL K G a vs ∧ Reps K G vs xs ∧ J 0 σ H1 ∧
      (∀ i x v σ' H', xs[i]? = some x → Ex G H' → Rep K G v x → J i σ' H' → g v σ' H' fun σ2 H2 => tb { D with nx := fun σ3 H3 => Ex G H3 ∧ J (i + 1) σ3 H3, ct := fun σ3 H3 => Ex G H3 ∧ J (i + 1) σ3 H3, bk := u D } σ2 H2) ∧
      (∀ σ' H', Ex G H' → J xs.length σ' H' → u D σ' H')) : tSeq (tFor (iList K te) g tb) u D σ H := s_for (D := { D with nx := u D }) h k
theorem q_forV {xs : List α} {n : Nat} {v : V} {g : TG} {tb : TS} (hσ : σ[n]? = some (some v)) (r : Rep K G v xs) (e : Ex G H) (J : Nat → L2.St → Hp → Prop) (j0 : J 0 σ H)
    (js : ∀ i x w σ' H', xs[i]? = some x → Ex G H' → Rep K G w x → J i σ' H' → g w σ' H' fun σ2 H2 => tb { D with nx := fun σ3 H3 => Ex G H3 ∧ J (i + 1) σ3 H3, ct := fun σ3 H3 => Ex G H3 ∧ J (i + 1) σ3 H3, bk := u D } σ2 H2)
    (jd : ∀ σ' H', Ex G H' → J xs.length σ' H' → u D σ' H') : tSeq (tFor (iList K (tVar n)) g tb) u D σ H := s_forV (D := { D with nx := u D }) hσ r e J j0 js jd
theorem q_forT {xs : Tp α} {g : TG} {tb : TS} (h : ER K te σ H xs) (k : ∀ a vs H1, Ex H H1 → SqT K H1 a vs → Reps K H1 vs (α := α) xs → ∃ (G : Hp) (J : Nat → L2.St → Hp → Prop), Ex G H1 ∧ SqT K G a vs ∧ Reps K G vs (α := α) xs ∧ J 0 σ H1 ∧
      (∀ i x v σ' H', (show List α from xs)[i]? = some x → Ex G H' → Rep K G v x → J i σ' H' → g v σ' H' fun σ2 H2 => tb { D with nx := fun σ3 H3 => Ex G H3 ∧ J (i + 1) σ3 H3, ct := fun σ3 H3 => Ex G H3 ∧ J (i + 1) σ3 H3, bk := u D } σ2 H2) ∧
      (∀ σ' H', Ex G H' → J (List.length xs) σ' H' → u D σ' H')) : tSeq (tFor (iTup K te) g tb) u D σ H := s_forT (D := { D with nx := u D }) h k
theorem q_rng {n : Int} {ta : TE} {g : TG} {tb : TS} (h : ER K ta σ H n) (hn : n < 2 ^ 62) (hn0 : -(2 ^ 62) ≤ n) (k : ∀ H1, Ex H H1 → ∃ (G : Hp) (J : Nat → L2.St → Hp → Prop), Ex G H1 ∧ J 0 σ H1 ∧
      (∀ (i : Nat) σ' H', i < n.toNat → Ex G H' → J i σ' H' → g (.int (i : Int)) σ' H' fun σ2 H2 => tb { D with nx := fun σ3 H3 => Ex G H3 ∧ J (i + 1) σ3 H3, ct := fun σ3 H3 => Ex G H3 ∧ J (i + 1) σ3 H3, bk := u D } σ2 H2) ∧
      (∀ σ' H', Ex G H' → J n.toNat σ' H' → u D σ' H')) : tSeq (tFor (iRng1 (tCons ta tNil)) g tb) u D σ H := s_rng (D := { D with nx := u D }) h hn hn0 k
theorem q_rng2 {lo hi : Int} {ta tc : TE} {g : TG} {tb : TS} (h : ER K ta σ H lo) (h' : ER K tc σ H hi) (hb : -(2 ^ 62) ≤ lo ∧ lo < 2 ^ 62 ∧ -(2 ^ 62) ≤ hi ∧ hi < 2 ^ 62) (k : ∀ H1, Ex H H1 → ∃ (G : Hp) (J : Nat → L2.St → Hp → Prop), Ex G H1 ∧ J 0 σ H1 ∧
      (∀ (i : Nat) σ' H', i < (hi - lo).toNat → Ex G H' → J i σ' H' → g (.int (lo + (i : Int))) σ' H' fun σ2 H2 => tb { D with nx := fun σ3 H3 => Ex G H3 ∧ J (i + 1) σ3 H3, ct := fun σ3 H3 => Ex G H3 ∧ J (i + 1) σ3 H3, bk := u D } σ2 H2) ∧
      (∀ σ' H', Ex G H' → J (hi - lo).toNat σ' H' → u D σ' H')) : tSeq (tFor (iRng2 (tCons ta (tCons tc tNil))) g tb) u D σ H := s_rng2 (D := { D with nx := u D }) h h' hb k
theorem q_enum {xs : List α} {m n : Nat} {tb : TS} (h : ER K te σ H xs) (k : ∀ a vs H1, Ex H H1 → SqL K H1 a vs → Reps K H1 vs xs → ∃ (G : Hp) (J : Nat → L2.St → Hp → Prop), Ex G H1 ∧ SqL K G a vs ∧ Reps K G vs xs ∧ J 0 σ H1 ∧
      (∀ i x w σ' H' H'', xs[i]? = some x → Ex G H' → Ex H' H'' → Rep K G w x → J i σ' H' → tb { D with nx := fun σ3 H3 => Ex G H3 ∧ J (i + 1) σ3 H3, ct := fun σ3 H3 => Ex G H3 ∧ J (i + 1) σ3 H3, bk := u D } ((σ'.set m (some (.int (i : Nat)))).set n (some w)) H'') ∧
      (∀ σ' H', Ex G H' → J xs.length σ' H' → u D σ' H')) : tSeq (tFor (iEnum K (tCons te tNil)) (gTup K 2 (gCons (gName m) (gCons (gName n) gNil))) tb) u D σ H := s_enum (D := { D with nx := u D }) h k
theorem q_while (J : L2.St → Hp → Prop) (μ : L2.St → Hp → Nat) {tb : TS} (j0 : J σ H) (js : ∀ σ' H', J σ' H' → ∃ b, ET K tt σ' H' b ∧ (b = true → ∀ H2, Ex H' H2 → tb { D with nx := fun σ3 H3 => J σ3 H3 ∧ μ σ3 H3 < μ σ' H', ct := fun σ3 H3 => J σ3 H3 ∧ μ σ3 H3 < μ σ' H', bk := u D } σ' H2) ∧ (b = false → ∀ H2, Ex H' H2 → u D σ' H2)) : tSeq (tWhile tt tb) u D σ H := s_while (D := { D with nx := u D }) J μ j0 js
/-- an if whose ways meet again in J -/
theorem q_ifJ {b : Bool} {tt : TT} {t u' u : TS} (J : L2.St → Hp → Prop) (k : ∀ σ' H', J σ' H' → u D σ' H') (h : ET K tt σ H b) (k1 : (∀ σ' H', J σ' H' → u D σ' H') → b = true → ∀ H', Ex H H' → t { D with nx := u D } σ H')
    (k2 : (∀ σ' H', J σ' H' → u D σ' H') → b = false → ∀ H', Ex H H' → u' { D with nx := u D } σ H') : tSeq (tIfS tt t u') u D σ H := s_if (D := { D with nx := u D }) h (k1 k) (k2 k)
theorem Own.cut {p q : Addr} {xs : List α} [Flat α] {ws : List V} (h : Own K H p xs) (hq : H q = some (.lst ws)) (ne : q ≠ p) : Own K (Z.cut H q) p xs := by
  obtain ⟨vs, h1, r1⟩ := h.ex
  refine ⟨vs, by rw [cut_ne (Ne.symm ne)]; exact h1, r1.imm ?_⟩
  have hc : Z.cut H p q = some (.lst ws) := by rw [cut_ne ne]; exact hq
  have e : Z.cut (Z.cut H p) q = Z.cut (Z.cut H q) p := by
    funext b
    unfold Z.cut
    split <;> split <;> rfl
  exact e ▸ Tups.cut hc
theorem Own.at {p : Addr} {xs : List α} (h : Own K H p xs) : ∃ vs, H p = some (.lst vs) := by
  obtain ⟨vs, h1, _⟩ := h.ex
  exact ⟨vs, h1⟩
end
end Z
set_option Elab.async false
set_option linter.all false
set_option maxRecDepth 100000
set_option maxHeartbeats 4000000
set_option autoImplicit false
/-! Z: defs of a class that say super().__init__(..): their bodies at their own code. -/
namespace Z
open PySem L2
open PySem.W (ksEnv ksFn ks_superIn kxs_mw)
/-- the context of such a def's body -/
def cxS (CX : CXT) (P : Program) (w : World) (K : PySem.W.Frag) (mg : Str → Option Value) (base : Heap) (N : List Str) (qual : Str) (scope : Scope) (f : Addr) (cd : Value) (cc : Addr) (A : Around) (outer : List Env) (s : Shared) (H : Hp) (E : XK) : Cx where
  prog := P
  w := w
  K := K
  mg := mg
  base := base
  A := A.deeper (ksEnv qual scope s.heap.objs.size f cd cc)
  N := N
  s_0 := s
  H_0 := H
  env := ksEnv qual scope s.heap.objs.size f cd cc
  outer := outer
  stack := ksEnv qual scope s.heap.objs.size f cd cc :: outer
  ex := []
  calm := true
  fn := fun _ => false
  pn := []
  xe := fun e s' => wpAny (model P w) (A.deeper (ksEnv qual scope s.heap.objs.size f cd cc)) (leaving (ksEnv qual scope s.heap.objs.size f cd cc) e) (fun _ s'' => CX outer H s E e s'') (fun e' s'' => CX outer H s E e' s'') s'
/-- a block at its own code -/
structure PSsA (X : Cx) (body sts : List Stmt) (t : TS) : Prop where
  run : ∀ (pins : List (Addr × Obj)) (s : Shared) (σ : L2.St) (H : Hp) (D : Ends), Inv X pins σ H s → t D σ H → PySem.wpAt (model X.prog X.w) X.A (.func body X.env) (execs sts X.env) (SP X pins D) X.xe s
theorem pssa_of {X : Cx} {body sts : List Stmt} {t : TS} (h : PSs X sts t) : PSsA X body sts t := ⟨fun pins s σ H D I q => PySem.wpAt_of_wpAny (h.run pins s σ H D I q)⟩
theorem pssa_cons {X : Cx} {body rest : List Stmt} {st : Stmt} {t u : TS} (h1 : PS X st t) (h2 : PSsA X body rest u) : PSsA X body (st :: rest) (tSeq t u) := by
  refine ⟨fun pins s σ H D I h => ?_⟩
  refine PySem.ks_wpAt_execs_cons (PySem.wpAt_of_wpAny (thn (h1.run pins s σ H { D with nx := u D } I h) fun fl s1 q => ?_))
  cases fl with
  | next =>
    obtain ⟨σ', H', I', q⟩ := q
    exact h2.run pins s1 σ' H' D I' q
  | ret v => exact q
  | brk => exact q
  | cont => exact q
/-- names of such a def: locals alone, but the class -/
structure FnScopeS (N P : List Str) (sc : Scope) : Prop where
  kind : sc.kind = .function
  co : sc.isCoroutine = false
  gen : sc.isGenerator = false
  nd : N.Nodup
  pre : N.take P.length = P
  par : ∀ x ∈ P, sc.names.lookup x = some .local
  nocell : ∀ y ∈ sc.names, y.2 ≠ .cell
  free : ∀ y ∈ sc.names, y.2 = .free → y.1 = ("__class__" : Str)
  cls : sc.names.lookup ("__class__" : Str) = some .free
  sup : sc.names.lookup ("super" : Str) = some .globalImplicit
theorem zip_get {α β : Type} : ∀ {xs : List α} {ys : List β} {i : Nat} {x : α} {y : β}, xs[i]? = some x → ys[i]? = some y → (xs.zip ys)[i]? = some (x, y)
  | [], _, _, _, _, h, _ => by simp at h
  | _ :: _, [], _, _, _, _, h => by simp at h
  | a :: xs, b :: ys, 0, x, y, h, k => by
    simp at h k
    subst h k
    rfl
  | a :: xs, b :: ys, i + 1, x, y, h, k => by
    simpa using zip_get (xs := xs) (ys := ys) (i := i) (by simpa using h) (by simpa using k)
theorem zip_rev_lookup {ps : List Str} (nd : ps.Nodup) : ∀ {us : List Value} {i : Nat} {y : Str} {u : Value}, ps[i]? = some y → us[i]? = some u → (ps.zip us).reverse.lookup y = some u := by
  induction ps with
  | nil => intro us i y u h; simp at h
  | cons p ps ih =>
    intro us i y u h k
    cases us with
    | nil => simp at k
    | cons w us =>
      have nd' := List.nodup_cons.mp nd
      rw [List.zip_cons_cons, List.reverse_cons]
      cases i with
      | zero =>
        simp at h k
        subst h k
        have no : (ps.zip us).reverse.lookup p = none := by
          rw [List.lookup_eq_none_iff]
          intro q hq
          have hm : q ∈ ps.zip us := List.mem_reverse.mp hq
          have := (List.of_mem_zip (show (q.1, q.2) ∈ ps.zip us from hm)).1
          simpa using fun e : p = q.1 => nd'.1 (e ▸ this)
        rw [List.lookup_append, no]
        simp [List.lookup]
      | succ i =>
        have := ih nd'.2 (us := us) (i := i) (y := y) (u := u) (by simpa using h) (by simpa using k)
        rw [List.lookup_append, this]
        rfl
theorem inv_startS {CX : CXT} {P : Program} {w : World} {K : PySem.W.Frag} {mg : Str → Option Value} {base : Heap} {N ps : List Str} {qual : Str} {scope : Scope} {f cc D : Addr} {cd : Value} {A : Around} {outer : List Env} {s : Shared} {H : Hp} {E : XK} {us : List Value} {vs : List V} {h1 : Heap} {tk : Nat}
    (S : FnScopeS N ps scope) (hd : A.handled = none) (e0 : Env0 P w K mg base A outer s H) (hl : vs.length = ps.length) (r : Vals vs us) (hcc : ∃ cl cld csl, K.lookup cc = some ⟨cl, cld, .cell (some (.ref D)), csl⟩)
    (hns : h1.Ns s.heap.objs.size (fun x => (ps.zip us).reverse.lookup x)) (hk : ∀ b o, s.heap.get? b = some o → h1.get? b = some o) :
    Inv (cxS CX P w K mg base N qual scope f cd cc A outer s H E) [] (L2.start N vs) H { s with heap := h1, toks := tk } := by
  have hpl : ps.length ≤ N.length := by have := congrArg List.length S.pre; rw [List.length_take] at this; omega
  have noA : ∀ b : Addr, b ∉ (cxS CX P w K mg base N qual scope f cd cc A outer s H E).ex := fun b z => absurd (show b ∈ ([] : List Addr) from z) (by simp)
  obtain ⟨cl, cld, csl, hc⟩ := hcc
  have hcb := e0.mod.kin _ _ hc
  have hcs := (e0.bs _ _ hcb).1
  have one : ∀ x c, (cxS CX P w K mg base N qual scope f cd cc A outer s H E).env.cells.lookup x = some c → x = ("__class__" : Str) ∧ c = cc := fun x c h => by
    have h' : List.lookup x [(("__class__" : Str), cc)] = some c := h
    simp only [List.lookup] at h'
    split at h'
    · rename_i q
      cases h'
      exact ⟨by simpa using q, rfl⟩
    · cases h'
  refine ⟨⟨e0.mod, S.kind, rfl, rfl, Nat.le_refl _, fun x y c a b => (one x c a).1.trans (one y c b).1.symm, fun y hy => ?_, fun x c z _ => ?_, fun _ => hd, Around.frames_deeper e0.frames, .inr ⟨rfl, rfl⟩, fun b z => absurd z (noA b), e0.bs, e0.bsz, fun b _ _ => noA b, fun b z => absurd z (noA b), e0.funs, e0.frf⟩,
    rfl, e0.bare, Un.kept hk, ⟨_, hns, fun i y v h1 h2 h3 => ?_⟩, fun y c h => ?_, e0.hok.fresh (Nat.le_refl _), fun y c h => ?_, fun p hp => absurd (show p ∈ ([] : List (Addr × Obj)) from hp) (by simp), e0.hok.kept hk, ?_⟩
  · refine ⟨cc, ?_⟩
    have hy : scope.names.lookup y = some .cell ∨ scope.names.lookup y = some .free := hy
    have : y = ("__class__" : Str) := by
      rcases hy with hy | hy
      · exact absurd rfl (S.nocell _ (PySem.mem_of_lookup hy))
      · exact S.free _ (PySem.mem_of_lookup hy) rfl
    rw [this]
    show List.lookup ("__class__" : Str) [(("__class__" : Str), cc)] = some cc
    simp [List.lookup]
  · exact absurd (show (false : Bool) = true from z) Bool.false_ne_true
  · have hi : i < vs.length := by
      unfold L2.start at h2
      by_cases hi : i < vs.length
      · exact hi
      · rw [List.getElem?_append_right (by simpa using hi)] at h2
        rw [List.getElem?_replicate] at h2
        split at h2 <;> cases h2
    have ha : vs[i]? = some v := by
      unfold L2.start at h2
      rw [List.getElem?_append_left (by simpa using hi), List.getElem?_map] at h2
      cases e : vs[i]? with
      | none => rw [e] at h2; cases h2
      | some a => rw [e] at h2; cases h2; rfl
    obtain ⟨u, hu, rv⟩ := r.get ha
    have hp : ps[i]? = some y := by
      rw [← S.pre, List.getElem?_take_of_lt (by omega)]; exact h1
    have ndP : ps.Nodup := by rw [← S.pre]; exact S.nd.sublist (List.take_sublist _ _)
    exact ⟨u, rv, .inl ⟨S.par y (List.mem_of_getElem? hp), zip_rev_lookup ndP hp hu⟩⟩
  · obtain ⟨_, rfl⟩ := one y c h
    exact ⟨_, _, hk _ _ hcs, rfl⟩
  · obtain ⟨_, rfl⟩ := one y c h
    exact (e0.bs _ _ hcb).2
  · unfold L2.start
    show _ = N.length
    rw [List.length_append, List.length_map, List.length_replicate]
    omega
/-- what the written part says of a def that closes over its class -/
structure SupF (P : Program) (K : PySem.W.Frag) (mg : Str → Option Value) (x qual : Str) (st : Stmt) (f cda cc D : Addr) (fd : FuncData) : Prop where
  ex : ∃ (oc : Value) (od : Option Addr) (kV doc pm : Value) (an : Option Addr) (ct : Value) (osl : Array (Option Value)),
    fd = ksFn x qual (defArgs st) (defBody st) (defScope st) .none kV doc pm an (.ref cda) ct cc ∧ K.lookup f = some ⟨oc, od, .func fd, osl⟩ ∧ PySem.W.codeIn K (.ref cda) qual = true
  code : ∃ ccl cdd vs ccs file tf, K.lookup cda = some ⟨ccl, cdd, .fields vs, ccs⟩ ∧ vs[2]? = some (.str file tf) ∧ (P.main.file == file) = true
  cell : ∃ cl cld csl, K.lookup cc = some ⟨cl, cld, .cell (some (.ref D)), csl⟩
  cls : (PySem.W.clsIn K D).isSome = true
  nosup : mg ("super" : Str) = none
  htop : (P.main.scope.names.lookup ("super" : Str)).isSome = false
  par : ∃ ar, ((defArgs st).posonlyargs ++ (defArgs st).args).head? = some ar ∧ ar.arg = ("self" : Str)
  kp : PySem.W.keepIn K (.ref f) = true
theorem SupF.ok {P : Program} {w : World} {K : PySem.W.Frag} {mg : Str → Option Value} {base : Heap} {CX : CXT} {k : Nat} {x qual : Str} {st : Stmt} {f cda cc D : Addr} {fd : FuncData} {N ps : List Str} {sp : Sp}
    (F : SupF P K mg x qual st f cda cc D fd) (S : FnScopeS N ps (defScope st)) (len : ∀ vs H Q E, sp vs H Q E → vs.length = ps.length)
    (hbody : ∀ (A : Around) (outer : List Env) (s : Shared) (H : Hp) (vs : List V) (Q : VK) (E : XK), Room k (A.deeper (ksEnv qual (defScope st) s.heap.objs.size f (.ref cda) cc)) → sp vs H Q E →
      ∃ t, PSsA (cxS CX P w K mg base N qual (defScope st) f (.ref cda) cc A outer s H E) (defBody st) (defBody st) t ∧ t { nx := fun _ H' => Q .non H', rt := Q } (L2.start N vs) H) :
    FnOk P w K mg base CX (k + 1) f fd ps sp := by
  obtain ⟨oc, od, kV, doc, pm, an, ct, osl, rfl, lk, hcd⟩ := F.ex
  refine ⟨len, fun A outer s H args us vs Q E hr e0 hb r hsp => ?_⟩
  have hl := len _ _ _ _ hsp
  have KX : K.In s.heap := e0.mod.kin.keeps fun b o e => (e0.bs b o e).1
  have lim : s.heap.NoLimit := e0.mod.nolimit.keeps fun b o e => (e0.bs b o e).1
  refine PySem.ks_codeAny_call_defAt hr.depth (KX _ _ lk) rfl lim (PySem.W.codeRec_of KX hcd) rfl hb S.nocell (fun y hy => S.par y.1 (List.of_mem_zip (show (y.1, y.2) ∈ ps.zip us from hy)).1) (fun h₁ hns hk => ?_) S.co S.gen S.kind
  obtain ⟨t, ht, hq⟩ := hbody A outer s H vs Q E (hr.deeper _) hsp
  have I := inv_startS (CX := CX) (w := w) (f := f) (cd := .ref cda) (qual := qual) (E := E) (tk := s.toks + (ps.zip us).length) S hr.hd e0 hl r F.cell hns hk
  refine PySem.wpAt_mono (ht.run [] _ (L2.start N vs) H _ I hq) (fun fl s' hs => ?_) fun e s' hs => hs
  have fin : ∀ {σ' : L2.St} {H' : Hp} {v : V} {u : Value}, Inv (cxS CX P w K mg base N qual (defScope st) f (.ref cda) cc A outer s H E) [] σ' H' s' → RelV v u → Q v H' → CE outer P w H s Q u s' :=
    fun {σ' H' v u} J rv q => ⟨v, H', J.os, J.bare, J.base, J.hok, rv, q⟩
  cases fl with
  | ret u =>
    obtain ⟨v, σ', H', J, rv, q⟩ := hs
    exact fin J rv q
  | next =>
    obtain ⟨σ', H', J, q⟩ := hs
    exact fin (v := V.non) (u := Value.none) J rfl q
  | brk =>
    obtain ⟨_, _, _, q⟩ := hs
    exact False.elim q
  | cont =>
    obtain ⟨_, _, _, q⟩ := hs
    exact False.elim q
/-! ### super() -/
section
variable {CX : CXT} {P : Program} {w : World} {K : PySem.W.Frag} {mg : Str → Option Value} {base : Heap} {N ps : List Str} {x qual : Str} {st : Stmt} {f cda cc D : Addr} {fd : FuncData} {A : Around} {outer : List Env} {s₀ : Shared} {H₀ : Hp} {E₀ : XK}
abbrev superO (D x C : Addr) : Obj := PySem.W.ks_superObj D x C
/-- super() made, self an instance of the class at C -/
theorem sup_node (F : SupF P K mg x qual st f cda cc D fd) (S : FnScopeS N ps (defScope st)) (hself : N[0]? = some ("self" : Str)) (hsl : (defScope st).names.lookup ("self" : Str) = some .local)
    {pins : List (Addr × Obj)} {σ : L2.St} {H : Hp} {s : Shared} {a C : Addr} {p0 p1 : Pos} {attr : Str} {whole : Sem Value} {Q : Value → Shared → Prop} {E : Value → Shared → Prop} {ox : Obj} {odx : Option Obj}
    (I : Inv (cxS CX P w K mg base N qual (defScope st) f (.ref cda) cc A outer s₀ H₀ E₀) pins σ H s) (hσ : σ[0]? = some (some (.ref a))) (hat : (attr == ("__class__" : Str)) = false)
    (J : PySem.W.InstAt s.heap a ox C odx) (hsub : PySem.W.mroIn K C (.ref D) = some true)
    (h : ∀ so s', s'.heap.get? so = some (superO D a C) → (∀ b o, s.heap.get? b = some o → s'.heap.get? b = some o) → Inv (cxS CX P w K mg base N qual (defScope st) f (.ref cda) cc A outer s₀ H₀ E₀) pins σ H s' → Q (.ref so) s') :
    PySem.wpAt (model P w) (A.deeper (ksEnv qual (defScope st) s₀.heap.objs.size f (.ref cda) cc)) (.func (defBody st) (ksEnv qual (defScope st) s₀.heap.objs.size f (.ref cda) cc))
      (attributeBase (.Call (.Name "super" p0) [] [] p1) attr (ksEnv qual (defScope st) s₀.heap.objs.size f (.ref cda) cc) whole) Q E s := by
  have X : K.In s.heap := I.kIn
  obtain ⟨oc, od, kV, doc, pm, an, ct, osl, rfl, lk, hcd⟩ := F.ex
  obtain ⟨ccl, cdd, vs, ccs, file, tf, hcode, hvs, hfile⟩ := F.code
  obtain ⟨cl, cld, csl, hcell⟩ := F.cell
  obtain ⟨ar, hp, har⟩ := F.par
  obtain ⟨cdD, hD⟩ := Option.isSome_iff_exists.mp F.cls
  obtain ⟨m, hns, hloc⟩ := I.loc
  obtain ⟨u, ru, hu⟩ := hloc 0 ("self" : Str) (.ref a) hself hσ (.inl hsl)
  obtain rfl : u = Value.ref a := ru
  have hmu : m ("self" : Str) = some (.ref a) := by
    rcases hu with ⟨_, e⟩ | ⟨q, _⟩
    · exact e
    · exfalso
      have hk : ∀ k, (cxS CX P w K mg base N qual (defScope st) f (.ref cda) cc A outer s₀ H₀ E₀).env.kindOf ("self" : Str) = some k → k = .local := fun k e => by
        have e' : (defScope st).names.lookup ("self" : Str) = some k := e
        rw [hsl] at e'
        exact (Option.some.inj e').symm
      rcases q with q | q
      · cases hk _ q
      · cases hk _ q
  have Ik := I
  obtain ⟨hh, g, d, t, os⟩ := s
  obtain ⟨oD, hD1, hD2⟩ : ∃ oD, hh.get? D = some oD ∧ oD.data = .cls cdD := by
    unfold PySem.W.clsIn at hD
    split at hD
    · rename_i c d cd' sl ho
      cases hD
      exact ⟨_, X _ _ ho, rfl⟩
    · cases hD
  obtain ⟨mb, hb1, hb2⟩ := I.mod.blt
  refine PySem.ks_wpAt_super_base (env := ksEnv qual (defScope st) s₀.heap.objs.size f (.ref cda) cc) S.sup S.cls hat rfl (X _ _ lk) rfl hp rfl (X _ _ hcode) rfl hvs hfile F.htop ?_
  refine PySem.W.ks_loadName_global S.kind S.sup (Calls.loadGlobal_builtin (env := ksEnv qual (defScope st) s₀.heap.objs.size f (.ref cda) cc) (I.mod.glob.keeps I.bk) F.nosup (hb1.keeps I.bk) ((hb2 _ (by decide +kernel)).trans (by decide +kernel : bootBuiltins ("super" : Str) = some (.type "super"))) ⟨rfl, ?_⟩)
  refine wpAny_loadName_free S.kind S.cls (c := cc) (by show List.lookup ("__class__" : Str) [(("__class__" : Str), cc)] = some cc; simp [List.lookup]) ⟨_, X _ _ hcell, rfl⟩ ?_
  rw [har]
  refine wpAny_loadName_local S.kind hsl hns hmu ?_
  refine PySem.ks_wpAny_isType_cls hD1 hD2 ⟨rfl, ?_⟩
  refine PySem.ks_wpAny_call_super hD1 hD2 J.at_ J.cls (fun c e => ?_) (PySem.W.looks_mroIn X hsub) (fun h' e k => ?_)
  · have := J.no
    unfold PySem.W.notCls at this
    rw [e] at this
    exact Bool.noConfusion this
  · exact h _ ⟨h', g, d, t, os⟩ e k (Ik.kept (t' := t) k)
end
end Z
namespace Z
open PySem L2
open PySem.W (ksEnv ksFn ks_superIn kxs_mw)
def mwO (u x : Addr) : HO := .ext fun h => h.get? u = some (kxs_mw "ValueError.__init__" x)
theorem mwO_ok {P : Program} {w : World} {H : Hp} {h : Heap} {u x : Addr} (e : h.get? u = some (kxs_mw "ValueError.__init__" x)) : ObjOk P w H h u (mwO u x) := ⟨e, ⟨_, e⟩, fun _ _ q k => k _ q⟩
theorem mwO_at {P : Program} {w : World} {H : Hp} {h : Heap} {u x : Addr} (hok : HOk P w H h) (e : H u = some (mwO u x)) : h.get? u = some (kxs_mw "ValueError.__init__" x) := by
  have z : ObjOk P w H h u (.ext fun h => h.get? u = some (kxs_mw "ValueError.__init__" x)) := hok u _ e
  exact z.1
/-- what the class at C, an exception's, says to super().__init__ in a def of the class at D -/
structure SupE (K : PySem.W.Frag) (C D : Addr) : Prop where
  T : OexC K C
  su : ks_superIn K C D "__init__" = some (some (.builtin "ValueError.__init__"))
  ve : PySem.W.subIn K (.ref C) (.type "ValueError") = some true
  mr : PySem.W.mroIn K C (.ref D) = some true
  op : PySem.W.nsIn K PySem.cStatics "thirdparty.any" = some none
def tSupE (K : PySem.W.Frag) (D : Addr) (t : TA) (u' : TS) : TS := fun Dd σ H => ∃ a C, σ[0]? = some (some (.ref a)) ∧ H a = some (exo a C none) ∧ SupE K C D ∧
  ∀ u, H u = none → u ≠ a → t σ (upd H u (mwO u a)) fun vs H2 => H2 u = some (mwO u a) ∧ H2 a = some (exo a C none) ∧ vs.length ≤ 1000 ∧ u' Dd σ H2
theorem insE {P : Program} {w : World} {H : Hp} {h : Heap} {a C : Addr} (hok : HOk P w H h) (e : H a = some (exo a C none)) : ∃ ox, PySem.W.InstAt h a ox C none := by
  obtain ⟨t1, ho⟩ := exo_at hok e
  exact ⟨_, ho, rfl, rfl, trivial⟩
section
variable {CX : CXT} {P : Program} {w : World} {K : PySem.W.Frag} {mg : Str → Option Value} {base : Heap} {N ps : List Str} {x qual : Str} {st : Stmt} {f cda cc D : Addr} {fd : FuncData} {A : Around} {outer : List Env} {s₀ : Shared} {H₀ : Hp} {E₀ : XK}
theorem pssa_supE (F : SupF P K mg x qual st f cda cc D fd) (S : FnScopeS N ps (defScope st)) (hself : N[0]? = some ("self" : Str)) (hsl : (defScope st).names.lookup ("self" : Str) = some .local)
    {e : Expr} {es : List Expr} {sts : List Stmt} {p0 p1 p2 pos pos' : Pos} {t : TA} {u' : TS} {pl : Sem Bool}
    (ha : PA (cxS CX P w K mg base N qual (defScope st) f (.ref cda) cc A outer s₀ H₀ E₀) (e :: es) t) (hr : PSsA (cxS CX P w K mg base N qual (defScope st) f (.ref cda) cc A outer s₀ H₀ E₀) (defBody st) sts u')
    (he : starEach (e :: es) (ksEnv qual (defScope st) s₀.heap.objs.size f (.ref cda) cc) = (false, eval e (ksEnv qual (defScope st) s₀.heap.objs.size f (.ref cda) cc)) :: starEach es (ksEnv qual (defScope st) s₀.heap.objs.size f (.ref cda) cc) := by rfl)
    (hpl : (backTo pos (starEach es (ksEnv qual (defScope st) s₀.heap.objs.size f (.ref cda) cc))).any (·.1) = false := by rfl)
    (hs : swapsWith (.Call (.Attribute (.Call (.Name "super" p0) [] [] p1) "__init__" p2) (e :: es) [] pos) none pos'.line (ksEnv qual (defScope st) s₀.heap.objs.size f (.ref cda) cc) = pure false := by rfl)
    (hc : eval (.Call (.Attribute (.Call (.Name "super" p0) [] [] p1) "__init__" p2) (e :: es) [] pos) (ksEnv qual (defScope st) s₀.heap.objs.size f (.ref cda) cc) = (do
      let ov ← attributeBase (.Call (.Name "super" p0) [] [] p1) "__init__" (ksEnv qual (defScope st) s₀.heap.objs.size f (.ref cda) cc) (eval (.Call (.Name "super" p0) [] [] p1) (ksEnv qual (defScope st) s₀.heap.objs.size f (.ref cda) cc))
      standAt p2.atName
      let (f', first) ← holding [ov] (getMethod ov "__init__" pl)
      callWith pos f' first (backTo pos (starEach (e :: es) (ksEnv qual (defScope st) s₀.heap.objs.size f (.ref cda) cc))) []) := by rfl) :
    PSsA (cxS CX P w K mg base N qual (defScope st) f (.ref cda) cc A outer s₀ H₀ E₀) (defBody st) (.Expr (.Call (.Attribute (.Call (.Name "super" p0) [] [] p1) "__init__" p2) (e :: es) [] pos) pos' :: sts) (tSupE K D t u') := by
  refine ⟨fun pins s σ H Dd I h => ?_⟩
  obtain ⟨a, C, hσ, hH, SE, h⟩ := h
  refine PySem.ks_wpAt_execs_cons (PySem.ks_wpAt_Expr_any ?_ I.quiet hs)
  refine PySem.ks_wpAt_MethodCall (pl := pl) ?_ hc
  obtain ⟨ox, J⟩ := insE I.hok hH
  obtain ⟨nm, q, N', bs, bm, sn, sub, ab, col, dd, k0, k1, k2, k3, k5, hC, hbm⟩ := SE.T.cls
  refine sup_node F S hself hsl I hσ (by decide +kernel) J SE.mr fun so s1 hso k1 I1 => ?_
  have X1 : K.In s1.heap := I1.kIn
  obtain ⟨ox1, J1⟩ := insE I1.hok hH
  obtain ⟨hh, g, d, tt, os⟩ := s1
  have hI : PySem.W.Looks (model P w) hh (isInstance (.ref a) (.type "ValueError")) true := J1.type.andThen (PySem.W.looks_subIn X1 SE.ve)
  have hcl : (PySem.W.clsIn K C) = some { name := nm, bases := bs, mro := .ref C :: bm, ns := N', qualname := q, hasDict := true, slotNames := sn, subclasses := sub, abstract := ab, collection := col, hasDel := false } := by unfold PySem.W.clsIn; rw [hC] <;> rfl
  have hsu := SE.su
  unfold ks_superIn at hsu
  rw [hcl] at hsu
  refine PySem.W.kxs_getMethod PySem.W.kxs_ValueError hso (PySem.W.looks_opaque X1 SE.op) (l₀ := .ref C :: bm) ?_ rfl X1 hsu hI (PySem.W.ks_ne X1 J1 hcl) (by decide +kernel) ?_
  · exact fun A Q E s k q => wpAny_bind ((PySem.W.looks_clsIn X1 hcl) A _ E s k (wpAny_pure q))
  · have hn : H hh.objs.size = none := I1.hok.fresh (Nat.le_refl _)
    have hua : hh.objs.size ≠ a := fun z => by rw [z, hH] at hn; cases hn
    have hget : (hh.push (kxs_mw "ValueError.__init__" a)).get? hh.objs.size = some (kxs_mw "ValueError.__init__" a) := Heap.get?_push_at rfl rfl
    have I2 : Inv (cxS CX P w K mg base N qual (defScope st) f (.ref cda) cc A outer s₀ H₀ E₀) pins σ (upd H hh.objs.size (mwO hh.objs.size a)) ⟨hh.push (kxs_mw "ValueError.__init__" a), g, d, tt + 1, os⟩ :=
      I1.laid (t' := tt + 1) (fun b o z => Heap.get?_push_of_some _ z) (Nat.le_refl _) (mwO_ok hget)
    have h2 := h _ hn hua
    have run := ha.run pos pins _ σ _ _ I2 h2
    show wpAny _ _ (callWith pos (.ref hh.objs.size) [] (backTo pos (starEach (e :: es) (ksEnv qual (defScope st) s₀.heap.objs.size f (.ref cda) cc))) []) _ _ _
    have run' : wpAny (model P w) (A.deeper (ksEnv qual (defScope st) s₀.heap.objs.size f (.ref cda) cc)) (spliced (backTo pos (starEach (e :: es) (ksEnv qual (defScope st) s₀.heap.objs.size f (.ref cda) cc)))) _ _ _ := run
    rw [he] at run' ⊢
    refine PySem.W.kxs_callWith (i := "ValueError.__init__") (x := a) (by show (false || (backTo pos (starEach es _)).any (·.1)) = false; rw [hpl]; rfl) ?_
    refine PySem.Calls.evalArgs_plain (wpAny_mono run' (fun us s3 hq => ?_) fun _ _ z => z)
    obtain ⟨vs, H3, I3, r3, hu3, ha3, hl3, q⟩ := hq
    have hu := mwO_at I3.hok hu3
    refine ⟨hu, ?_⟩
    obtain ⟨t1, ho⟩ := exo_at I3.hok ha3
    have X3 : K.In s3.heap := I3.kIn
    have hC3 := X3 _ _ hC
    have hz : us.length ≤ sizeLine := by
      rw [← Paired.length r3, sizeLine_eq]
      omega
    obtain ⟨h3, g3, d3, t3, os3⟩ := s3
    show wpAny _ _ (call (.ref hh.objs.size) us) _ _ _
    refine wpAny_call (codeAny_of_tree ?_)
    show wpAny _ (A.deeper (ksEnv qual (defScope st) s₀.heap.objs.size f (.ref cda) cc)).in1 (callAny (.ref hh.objs.size) ⟨us, []⟩) _ _ _
    simp only [callAny]
    refine wpAny_bind (wpAny_load hu ?_)
    simp only [kxs_mw, show (Value.type "method-wrapper" == Value.type "method" || Value.type "method-wrapper" == Value.type "builtin_function_or_method" || Value.type "method-wrapper" == Value.type "method-wrapper") = true by decide, if_true]
    refine PySem.W.KFB.if_so (by decide) ?_
    refine wpAny_bind (PySem.W.check_bound_init PySem.F.excBase_ValueError.toExcCallFacts hC3 ho rfl ?_)
    refine wpAny_bind (wpAny_pure (wpAny_pure ?_))
    refine ⟨plainId_quiet PySem.F.excBase_ValueError.init.plain _, codeAny_builtin PySem.F.excBase_ValueError.initEntry ?_⟩
    refine PySem.W.exc_init_tree (cls := .ref C) (t0 := t1) (dv := none) (c2 := .none) (c3 := .none) (b4 := .bool false) ho hz fun h' kk hx' ht' => ?_
    have J3 := I3.write (t' := t3) (x := a) (e := a) (o := exo a C none) (by rw [ha3]; exact True.intro) (.inl rfl) kk ⟨_, hx'⟩ (exo_ok hx')
    have eu : upd H3 a (exo a C none) = H3 := by
      funext b
      by_cases hb : b = a
      · rw [hb, upd_same, ha3]
      · rw [upd_ne hb]
    rw [eu] at J3
    exact hr.run pins _ σ H3 Dd J3 q
end
end Z
set_option Elab.async false
set_option linter.all false
set_option maxRecDepth 100000
set_option maxHeartbeats 4000000
set_option autoImplicit false
namespace Z
open PySem L2
open Evl (Ex)
theorem passN {X : Cx} : Passes (L2.CX X.prog X.w) X E0 := fun _ _ _ _ _ _ _ h => by
  obtain ⟨_, _, _, _, _, _, _, _, _, _, _, _, z⟩ := h
  exact z.elim
theorem passNAt {X : Cx} : ∀ σ, PassesAt (L2.CX X.prog X.w) X σ ((fun _ => E0 : L2.St → XK) σ) := fun σ pins H s e s' I c => passN pins σ H s e s' I c
theorem pass0At {X : Cx} {E : L2.St → XK} : ∀ σ, PassesAt CX0 X σ (E σ) := fun _ _ _ _ _ _ _ h => h.elim
/-! ### own errors: made by __init__(self, f, ..): super().__init__(text); self.f = f; .. -/
def spX1 (K : PySem.W.Frag) (C : Addr) (f : Str) : Sp := fun vs H Q _ => ∃ (a : Addr) (v : V), vs = [.ref a, v] ∧ H a = some (exo a C none) ∧
  ∀ H' d, H d = none → d ≠ a → Ex (cut H a) (cut H' a) → H' a = some (exo a C (some d)) → H' d = some (exd d [(f, v)]) → Q .non H'
def spX2 (K : PySem.W.Frag) (C : Addr) (f g : Str) : Sp := fun vs H Q _ => ∃ (a : Addr) (v u : V), vs = [.ref a, v, u] ∧ H a = some (exo a C none) ∧
  ∀ H' d, H d = none → d ≠ a → Ex (cut H a) (cut H' a) → H' a = some (exo a C (some d)) → H' d = some (exd d [(g, u), (f, v)]) → Q .non H'
theorem exd_lst {d : Addr} {fs : List (Str × V)} {u : HO} (h : exd d fs = u) : ∃ φ, u = .ext φ := ⟨_, h.symm⟩
theorem read_X1 {K : PySem.W.Frag} {C D : Addr} {f : Str} {x : Str} {vs : List V} {H : Hp} {Q : VK} {E : XK} (S : SupE K C D) (hno : PySem.W.findIn K (.ref C) f = some none) (h : spX1 K C f vs H Q E) {n : Nat} (hn : n = vs.length) :
    tSupE K D (tCons (tC (.str x)) tNil) (tOst K f (tVar 0) (tVar 1)) { nx := fun _ H' => Q .non H', rt := Q } (vs.map some ++ List.replicate (n - vs.length) none) H := by
  obtain ⟨a, v, rfl, ha, k⟩ := h
  subst hn
  refine ⟨a, C, rfl, ha, S, fun u hu hua => ⟨upd_same, by rw [upd_ne (Ne.symm hua)]; exact ha, by show 1 ≤ 1000; decide, v, rfl, .ref a, rfl, a, C, rfl, S.T, hno, .inl ⟨by rw [upd_ne (Ne.symm hua)]; exact ha, fun dx hdx hda => ?_⟩⟩⟩
  have hdu : dx ≠ u := fun z => by rw [z, upd_same] at hdx; cases hdx
  rw [upd_ne hdu] at hdx
  refine k _ dx hdx hda ?_ upd_same (by rw [upd_ne hda, upd_same])
  rw [cut_upd, cut_upd_ne hda, cut_upd_ne hua]
  exact (Evl.Ex.new (by rw [cut_ne hua]; exact hu)).trans (Evl.Ex.new (by rw [upd_ne hdu, cut_ne hda]; exact hdx))
theorem read_X2 {K : PySem.W.Frag} {C D : Addr} {f g : Str} {x : Str} {vs : List V} {H : Hp} {Q : VK} {E : XK} (S : SupE K C D) (hno : PySem.W.findIn K (.ref C) f = some none) (hno2 : PySem.W.findIn K (.ref C) g = some none) (h : spX2 K C f g vs H Q E) {n : Nat} (hn : n = vs.length) :
    tSupE K D (tCons (tC (.str x)) tNil) (tSeq (tOst K f (tVar 0) (tVar 1)) (tOst K g (tVar 0) (tVar 2))) { nx := fun _ H' => Q .non H', rt := Q } (vs.map some ++ List.replicate (n - vs.length) none) H := by
  obtain ⟨a, v, w, rfl, ha, k⟩ := h
  subst hn
  refine ⟨a, C, rfl, ha, S, fun u hu hua => ⟨upd_same, by rw [upd_ne (Ne.symm hua)]; exact ha, by show 1 ≤ 1000; decide, v, rfl, .ref a, rfl, a, C, rfl, S.T, hno, .inl ⟨by rw [upd_ne (Ne.symm hua)]; exact ha, fun dx hdx hda => ?_⟩⟩⟩
  have hdu : dx ≠ u := fun z => by rw [z, upd_same] at hdx; cases hdx
  rw [upd_ne hdu] at hdx
  refine ⟨w, rfl, .ref a, rfl, a, C, rfl, S.T, hno2, .inr ⟨dx, [(f, v)], upd_same, by rw [upd_ne hda, upd_same], by show 1 ≤ 900; decide, ?_⟩⟩
  refine k _ dx hdx hda ?_ (by rw [upd_ne (Ne.symm hda), upd_same]) upd_same
  rw [cut_upd_ne hda, cut_upd, cut_upd_ne hda, cut_upd_ne hua, upd_upd]
  exact (Evl.Ex.new (by rw [cut_ne hua]; exact hu)).trans (Evl.Ex.new (by rw [upd_ne hdu, cut_ne hda]; exact hdx))
/-- raise C(e), C(e, e') -/
theorem mk_X1 {K : PySem.W.Frag} {C : Addr} {f : Str} {te : TE} {σ : L2.St} {H : Hp} {v : V} {Q : XK} (h : EV K te σ H v) (k : ∀ d H', H d = none → Ex H H' → H' d = some (.xd [(f, v)]) → Q (.ref C) (some d) H') :
    tMkO C (spX1 K C f) [] (tCons te tNil) σ H Q := h H (Ex.refl H) _ fun H1 e1 => ⟨by show 1 ≤ 1000; decide, fun a ha => ⟨a, v, rfl, upd_same, fun H' d hd hda hx h1 h2 => by
  rw [upd_ne hda] at hd
  refine ⟨rfl, d, _, h1, h2, hd, k d _ (fresh_back e1 hd) (e1.trans fun b o hb => ?_) upd_same⟩
  have hba : b ≠ a := ne_of_none hb ha
  rw [upd_ne (ne_of_none hb hd)]
  show (if b = a then none else H' b) = some o
  rw [if_neg hba]
  have := hx b o (by rw [cut_ne hba, upd_ne hba]; exact hb)
  rwa [cut_ne hba] at this⟩⟩
theorem mk_X2 {K : PySem.W.Frag} {C : Addr} {f g : Str} {te tu : TE} {σ : L2.St} {H : Hp} {v u : V} {Q : XK} (h : EV K te σ H v) (h' : EV K tu σ H u) (k : ∀ d H', H d = none → Ex H H' → H' d = some (.xd [(g, u), (f, v)]) → Q (.ref C) (some d) H') :
    tMkO C (spX2 K C f g) [] (tCons te (tCons tu tNil)) σ H Q := h H (Ex.refl H) _ fun H0 e0 => h' H0 e0 _ fun H1 e1 => ⟨by show 2 ≤ 1000; decide, fun a ha => ⟨a, v, u, rfl, upd_same, fun H' d hd hda hx h1 h2 => by
  rw [upd_ne hda] at hd
  refine ⟨rfl, d, _, h1, h2, hd, k d _ (fresh_back (e0.trans e1) hd) ((e0.trans e1).trans fun b o hb => ?_) upd_same⟩
  have hba : b ≠ a := ne_of_none hb ha
  rw [upd_ne (ne_of_none hb hd)]
  show (if b = a then none else H' b) = some o
  rw [if_neg hba]
  have := hx b o (by rw [cut_ne hba, upd_ne hba]; exact hb)
  rwa [cut_ne hba] at this⟩⟩
theorem len_X1 {K : PySem.W.Frag} {C : Addr} {f s1 s2 : Str} : ∀ vs H Q E, spX1 K C f vs H Q E → vs.length = [s1, s2].length := fun vs H Q E h => by
  obtain ⟨a, v, rfl, _⟩ := h
  rfl
theorem len_X2 {K : PySem.W.Frag} {C : Addr} {f g s1 s2 s3 : Str} : ∀ vs H Q E, spX2 K C f g vs H Q E → vs.length = [s1, s2, s3].length := fun vs H Q E h => by
  obtain ⟨a, v, u, rfl, _⟩ := h
  rfl
/-! ### a caught one: isinstance(e, c) -/
def rIsX (K : PySem.W.Frag) (a : Addr) (cls : Value) (d : Option Addr) : List V → Hp → VK → Prop := fun xs H Q => ∃ (c : V) (cv : Value) (b : Bool) (D dd : Addr) (fs : List (Str × V)), xs = [.ref a, c] ∧ cls = .ref D ∧ ExcC K D ∧ d = some dd ∧ H dd = some (.xd fs) ∧
  (∀ u, RelV c u → u = cv) ∧ PySem.W.kitOne K (.ref D) cv = some b ∧ Q (.bl b) H
theorem call_isX {X : Cx} {a : Addr} {cls : Value} {d : Option Addr} {oe : Obj} {pn : List (Addr × Obj)} (hz : Zc cls d oe) (hf : ∃ vs, oe.data = .fields vs) : CallR (X.suite a ((a, oe) :: pn)) (.builtin "isinstance") (rIsX X.K a cls d) := by
  intro pins s σ H xs us Q I r h
  obtain ⟨c, cv, b, D, dd, fs, rfl, rfl, C, rfl, hd, hcv, e, q⟩ := h
  cases r with
  | cons rx rr =>
    cases rr with
    | cons rt rr =>
      cases rr
      cases rx
      have ec := hcv _ rt
      subst ec
      obtain ⟨hget, _⟩ := I.pin (a, oe) (List.mem_append.mpr (.inl List.mem_cons_self))
      obtain ⟨vs, hv⟩ := hf
      have hx : ObjOk X.prog X.w H s.heap dd (.xd fs) := I.hok dd _ hd
      obtain ⟨mA, ⟨od, _, _, ho, _⟩, _⟩ := hx
      have J : PySem.W.InstAt s.heap a oe D (some od) := ⟨hget, hz.1, by unfold PySem.W.notCls; rw [hv] <;> rfl, by rw [hz.2]; exact ho⟩
      obtain ⟨cd, hc, _⟩ := PySem.W.any_some C.hd
      exact PySem.W.kia_one (PySem.W.kitx_exc (by rw [hc]; rfl) C.hg C.hk C.hs C.ha C.hn C.ht C.hm) I.kIn J e (fun z => nomatch z) fun tk => ⟨.bl b, H, I.kept (t' := tk) fun _ _ z => z, rfl, q⟩
/-! ### C(e, ..) where what is raised is wished for at the caller's slots -/
def tMakeS (C : Addr) (sp : Sp) (E : L2.St → XK) (t : TA) : TE := fun σ H Q => t σ H fun vs H1 => ∀ x dx, H1 x = none → H1 dx = none → dx ≠ x →
  sp (.ref x :: vs) (upd (upd H1 dx (.own x)) x (.ins C dx [])) (fun v H2 => v = .non ∧ Q (.ref x) H2) (E σ)
section
variable {X : Cx} {CX : CXT} {k : Nat} {f C : Addr} {fd : FuncData} {ps : List Str} {sp : Sp} {E : L2.St → XK} {x : Str} {p pos : Pos} {e : Expr} {es : List Expr} {t : TA}
theorem pe_makeS (M : Mk X.K C f) (F : FnOk X.prog X.w X.K X.mg X.base CX k f fd ps sp) (hr : Room (k + 1) X.A) (hg : Gl X x) (hm : X.mg x = some (.ref C)) (hb : Binds X.K fd ps []) (hx : ∀ σ, PassesAt CX X σ (E σ))
    (ha : PA X (e :: es) t) (hdb : (x == ("__debug__" : Str)) = false := by decide) (he : starEach (e :: es) X.env = (false, eval e X.env) :: starEach es X.env := by rfl) (hpl : (backTo pos (starEach es X.env)).any (·.1) = false := by rfl) :
    PE X (.Call (.Name x p) (e :: es) [] pos) (tMakeS C sp E t) := by
  refine ⟨fun pins s0 σ H0 Q I0 h => wpAny_Call_Name_kw (ld_glob I0 hg hm ?_ hdb)⟩
  refine PySem.W.callWith_K (h₀ := X.base) I0.ok.mod.kin M.kp (thn (ha.run pos pins s0 σ H0 _ I0 h) fun us s ⟨vs, H, I, r, h⟩ => ⟨I.kIn, ?_⟩) he hpl
  have hq := h (s.heap.objs.size + 1) s.heap.objs.size (I.hok.fresh (Nat.le_succ _)) (I.hok.fresh (Nat.le_refl _)) (Nat.ne_of_lt (Nat.lt_succ_self _))
  have I2 := Inv.made (C := C) I
  have r2 : Vals (V.ref (s.heap.objs.size + 1) :: vs) (Value.ref (s.heap.objs.size + 1) :: us) := .cons rfl r
  have hl := (r2.length.symm.trans (F.len _ _ _ _ hq))
  have hbb := hb _ (Value.ref (s.heap.objs.size + 1) :: us) I2.kIn (by rw [List.append_nil]; exact hl)
  rw [List.append_nil] at hbb
  refine wpAny_call (make_map (f := f) I.kIn M.makes M.init (beq_iff_eq.mp M.fn) (codeAny_mono (F.run _ X.stack _ _ _ _ _ _ (E σ) (hr.make C us []) (I2.env0.make C us []) hbb r2 hq) fun r s' hq' => ?_))
  cases r with
  | error er => exact hx σ pins _ _ er s' I2 hq'
  | ok fl =>
    cases fl with
    | ret u =>
      obtain ⟨v, H', I3, rv, ev, q3⟩ := I2.after hq'
      subst ev
      exact ⟨rv, ⟨V.ref (s.heap.objs.size + 1), H', I3, rfl, q3⟩⟩
    | next => exact False.elim hq'
    | brk => exact False.elim hq'
    | cont => exact False.elim hq'
end
/-! ### a op b by an own method of both -/
structure OpC (K : PySem.W.Frag) (C f : Addr) (m : Str) : Prop where
  first : PySem.W.selfFirst K C = true
  at_ : PySem.W.findIn K (.ref C) m = some (some (.ref f))
  fn : PySem.W.isFn K (.ref f) = true
def tOwnOp (C : Addr) (sp : Sp) (E : L2.St → XK) (ta tb : TE) : TE := fun σ H Q => ta σ H fun x H1 => tb σ H1 fun y H2 => ∃ a dx fs b dy gs c, x = .ref a ∧ y = .ref b ∧ H2 a = some (.ins C dx fs) ∧ H2 b = some (.ins C dy gs) ∧
  sp [x, y] H2 (fun v H3 => v = .ref c ∧ Q v H3) (E σ)
def tOwnOp' (C : Addr) (sp : Sp) (E : L2.St → XK) (ta tb : TE) : TE := fun σ H Q => ta σ H fun x H1 => tb σ H1 fun y H2 => ∃ a dx fs b dy gs, x = .ref a ∧ y = .ref b ∧ H2 a = some (.ins C dx fs) ∧ H2 b = some (.ins C dy gs) ∧ sp [x, y] H2 Q (E σ)
theorem relV_ni {v : V} {Q : Value → Shared → Prop} {u : Value} {s : Shared} (r : RelV v u) (q : Q u s) : PySem.W.CmpBack Q u s := by
  cases v with
  | non => cases (show u = _ from r); exact q
  | bl _ => cases (show u = _ from r); exact q
  | int _ => obtain ⟨t, rfl⟩ := r; exact q
  | str _ => obtain ⟨t, rfl⟩ := r; exact q
  | byt _ => obtain ⟨t, rfl⟩ := r; exact q
  | flt _ => obtain ⟨t, rfl⟩ := r; exact q
  | ref _ => cases (show u = _ from r); exact q
  | ty _ => cases (show u = _ from r); exact q
section
variable {X : Cx} {CX : CXT} {k : Nat} {f C : Addr} {fd : FuncData} {ps : List Str} {sp : Sp} {E : L2.St → XK} {pos : Pos} {a b : Expr} {ta tb : TE} {op : Operator}
theorem pe_own (O : OpC X.K C f (PySem.dunder op.info.2)) (F : FnOk X.prog X.w X.K X.mg X.base CX k f fd ps sp) (hr : Room k X.A) (hb : Binds X.K fd ps []) (hx : ∀ σ, PassesAt CX X σ (E σ)) (ha : PE X a ta) (hb' : PE X b tb) :
    PE X (.BinOp a op b pos) (tOwnOp' C sp E ta tb) := by
  refine ⟨fun pins s σ H Q I h => wpAny_BinOp (bin ha hb' I h fun v u s2 x y H2 I2 rx ry q => ?_)⟩
  obtain ⟨p, dx, fs, r, dy, gs, rfl, rfl, hp, hq, hs⟩ := q
  obtain rfl : v = Value.ref p := rx
  obtain rfl : u = Value.ref r := ry
  obtain ⟨mA, O1, _⟩ := ins_get I2.hok hp
  obtain ⟨od, J, _⟩ := O1.look
  obtain ⟨mB, O2, _⟩ := ins_get I2.hok hq
  obtain ⟨od', J', _⟩ := O2.look
  obtain ⟨m, hF⟩ := I2.fr
  refine PySem.W.binop_K hF I2.ok.mod.kin J J'.type O.first O.at_ O.fn ?_
  refine thn (run_fnS F hr hb (hx σ) (vs := [.ref p, .ref r]) (us := [.ref p, .ref r]) I2 (.cons rfl (.cons rfl .nil)) hs) fun v s' hv => ?_
  obtain ⟨w, H', I', rw', q⟩ := hv
  exact relV_ni rw' ⟨w, H', I', rw', q⟩
end
end Z
set_option Elab.async false
set_option linter.all false
set_option maxRecDepth 100000
set_option maxHeartbeats 4000000
set_option autoImplicit false
namespace Z
open PySem L2
open Evl (Ex)
section
variable {X : Cx} {pins : List (Addr × Obj)} {σ : L2.St} {H : Hp} {s : Shared}
/-- a tracked thing that is only told by a fact is let go -/
theorem inv_drop {it : Addr} {φ : Heap → Prop} (I : Inv X pins σ H s) (e : H it = some (.ext φ)) : Inv X pins σ (cut H it) s := by
  have ne : ∀ b o, H b = some o → o ≠ .ext φ → b ≠ it := fun b o h d z => by
    rw [z, e] at h
    exact d (Option.some.inj h).symm
  have up : ∀ b o, H b = some o → o ≠ .ext φ → cut H it b = some o := fun b o h d => by
    rw [cut_ne (ne b o h d)]
    exact h
  have no : ∀ b, H b = none → cut H it b = none := fun b h => by
    by_cases q : b = it
    · rw [q, cut_same]
    · rw [cut_ne q]
      exact h
  refine ⟨I.ok, I.os, I.bare, ⟨I.base.keep, I.base.slot, fun b o a c d => no b (I.base.free b o a c d), I.base.there, fun b xs h => up b _ (I.base.tups b xs h) (by intro z; cases z), fun b o u h => up b _ (I.base.frzs b o u h) (by intro z; cases z), fun b ps h => ?_⟩,
    I.loc, I.cell, no _ I.free, fun x c h => no c (I.freeC x c h), fun p hp => ?_, fun b o h => ?_, I.len⟩
  · obtain ⟨m, h⟩ := I.base.tbls b ps h
    exact ⟨m, up b _ h (by intro z; cases z)⟩
  · obtain ⟨h1, h2, h3⟩ := I.pin p hp
    exact ⟨h1, no _ h2, h3⟩
  · have hb : b ≠ it := fun z => by rw [z, cut_same] at h; cases h
    rw [cut_ne hb] at h
    exact (I.hok b o h).stay (fun _ _ _ q => q) (fun c h => up c _ h (by intro z; cases z)) fun c xs h => up c _ h (by intro z; cases z)
/-- a new tracked thing, told by a fact, may be an iterator -/
theorem fp_new {H' : Hp} {s' : Shared} {it : Addr} {u : HO} (I : Inv X pins σ H s) (I' : Inv X pins σ H' s') (big : s.heap.objs.size ≤ it) (e : H' it = some u) : FpOk X pins (cut H' it) it := by
  have nn : ∀ b, H' b = none → b ≠ it := fun b h z => by rw [z, e] at h; cases h
  exact ⟨cut_same, (nn _ I'.free).symm, fun z => nn it (by
      obtain ⟨_, o, ho, _⟩ := I'.ok.funs.mem z
      exact I'.base.free it o ho (I'.ok.frf it z) fun y => I'.ok.exfs it y z) rfl, .inr (Nat.le_trans I.sz big), fun x c h => nn c (I'.freeC x c h), fun p hp => nn _ (I'.pin p hp).2.1⟩
end
/-! ### a promise that knows how large the heap was at the call -/
structure FnOkN (P : Program) (w : World) (K : PySem.W.Frag) (mg : Str → Option Value) (base : Heap) (CX : CXT) (k : Nat) (f : Addr) (fd : FuncData) (ps : List Str) (sp : Nat → Sp) : Prop where
  len : ∀ n vs H Q E, sp n vs H Q E → vs.length = ps.length
  run : ∀ (A : Around) (outer : List Env) (s : Shared) (H : Hp) (args : Args) (us : List Value) (vs : List V) (Q : VK) (E : XK), Room k A → Env0 P w K mg base A outer s H → BindsTo s fd args (ps.zip us) → Vals vs us → sp s.heap.objs.size vs H Q E →
    codeAny (model P w) A (.call (.ref f) args) (CR CX outer P w H s Q E) s
theorem fun_okN {CX : CXT} {P : Program} {w : World} {K : PySem.W.Frag} {mg : Str → Option Value} {base : Heap} {k : Nat} {f : Addr} {fd : FuncData} {x qual : Str} {st : Stmt} {N ps : List Str} {sp : Nat → Sp} (F : Fun K x qual st f fd) (S : FnScope N ps (defScope st))
    (len : ∀ n vs H Q E, sp n vs H Q E → vs.length = ps.length)
    (hbody : ∀ (cdv : Value) (A : Around) (outer : List Env) (s : Shared) (H : Hp) (vs : List V) (Q : VK) (E : XK), Room k (A.deeper (PyProof.Rows.envOfC qual (defScope st) s.heap.objs.size f cdv)) → sp s.heap.objs.size vs H Q E →
      ∃ t, PSs (cxOf CX P w K mg base N qual (defScope st) f cdv A outer s H E) (defBody st) t ∧ t { nx := fun _ H' => Q .non H', rt := Q } (L2.start N vs) H) : FnOkN P w K mg base CX (k + 1) f fd ps sp := by
  obtain ⟨oc, od, kV, doc, pm, an, cdv, ct, osl, rfl, lk, hcd⟩ := F.ex
  refine ⟨len, fun A outer s H args us vs Q E hr e0 hb r hsp => ?_⟩
  have hl := len _ _ _ _ _ hsp
  have up : ∀ b o, base.get? b = some o → s.heap.get? b = some o := fun b o e => (e0.bs b o e).1
  have KX : K.In s.heap := e0.mod.kin.keeps up
  refine codeAny_call_function hr.depth (KX _ _ lk) rfl S.co S.gen rfl (PySem.W.codeRec_of KX hcd) (hb _ _ _ _ (wpAny_newFunctionEnv_cells S.kind (fun ⟨n, v⟩ hy => ?_) fun env he s1 x => ?_))
  · rcases S.par n (List.of_mem_zip hy).1 with q | q
    · exact .inl q
    · exact .inr ⟨q, PySem.W.cellsFrom_some _ _ _ (.inl q)⟩
  · subst he
    refine ⟨(e0.mod.nolimit.keeps up).keeps x.toInCall.keep, codeAny_func ?_⟩
    obtain ⟨t, ht, hq⟩ := hbody cdv A outer s H vs Q E (hr.deeper _) hsp
    have I : Inv (cxOf CX P w K mg base N qual (defScope st) f cdv A outer s H E) [] (L2.start N vs) H s1 := inv_start S hr.hd e0 hl r x
    refine wpAny_mono (ht.run [] s1 (L2.start N vs) H _ I hq) (fun fl s' hs => ?_) fun e s' hs => hs
    cases fl with
    | ret u =>
      obtain ⟨v, σ', H', J, rv, q⟩ := hs
      exact ⟨v, H', J.os, J.bare, J.base, J.hok, rv, q⟩
    | next =>
      obtain ⟨σ', H', J, q⟩ := hs
      exact ⟨V.non, H', J.os, J.bare, J.base, J.hok, rfl, q⟩
    | brk =>
      obtain ⟨_, _, _, q⟩ := hs
      exact False.elim q
    | cont =>
      obtain ⟨_, _, _, q⟩ := hs
      exact False.elim q
def rIterN (n : Nat) (K : PySem.W.Frag) : List V → Hp → VK → Prop := fun xs H Q => ∃ (l : Addr) (zs : List V), xs = [.ref l] ∧ SqL K H l zs ∧ ∀ it, H it = none → n ≤ it → Q (.ref it) (upd H it (ItO l it 0))
theorem call_iterN {X : Cx} : CallR X (.builtin "iter") (rIterN X.s_0.heap.objs.size X.K) := by
  intro pins s σ H xs us Q I r h
  obtain ⟨l, zs, rfl, hq, k⟩ := h
  cases r with
  | cons r1 r2 =>
    cases r2
    cases r1
    obtain ⟨its, rv, p, hz⟩ := I.list hq
    refine GNX.call_iter p.isList ?_
    have e : (s.heap.push (GNX.itObj l 0)).get? s.heap.objs.size = some (GNX.itObj l 0) := Heap.get?_push_at rfl rfl
    exact ⟨.ref s.heap.objs.size, _, I.laid (t' := s.toks) (fun b u q => Heap.get?_push_of_some _ q) (Nat.le_refl _) (itO_ok e), rfl, k _ (I.hok.fresh (Nat.le_refl _)) I.sz⟩
/-- a class whose instances hand on a list's iterator -/
structure OwnIt (K : PySem.W.Frag) (C f : Addr) : Prop where
  at_ : PySem.W.findIn K (.ref C) "__iter__" = some (some (.ref f))
  fn : PySem.W.isFn K (.ref f) = true
def iOwn (K : PySem.W.Frag) (C : Addr) (sp : Nat → Sp) (ta : TE) : TI := fun σ H R => ta σ H fun x H1 => ∃ a dx fs, x = .ref a ∧ H1 a = some (.ins C dx fs) ∧
  ∀ n, sp n [x] H1 (fun v H2 => ∃ l it xs, v = .ref it ∧ n ≤ it ∧ H2 it = some (ItO l it 0) ∧ SqL K (cut H2 it) l xs ∧ R (Itl K l) (cut H2 it)) E0
theorem sp_next {A : Around} {M : Model} {E : Value → Shared → Prop} {s : Shared} {l it : Addr} {i : Nat} {Q : Option Value → Shared → Prop} (h : s.heap.IsListIter it l i) (q : Q (some (.builtin "list_iterator.__next__")) s) : wpAny M A (specialOf (.ref it) "__next__") Q E s := by
  obtain ⟨o, ho, hc, _⟩ := h
  exact wpAny_specialOf ⟨o, ho, hc⟩ PySem.slot_listiter_next.lookup q
theorem pi_own {X : Cx} {CX : CXT} {k : Nat} {f C : Addr} {fd : FuncData} {ps : List Str} {sp : Nat → Sp} {tg e : Expr} {ta : TE} (O : OwnIt X.K C f) (F : FnOkN X.prog X.w X.K X.mg X.base CX k f fd ps sp) (hr : Room k X.A) (hb : Binds X.K fd ps []) (hx : Passes CX X E0) (he : PE X e ta) :
    PI X tg e (iOwn X.K C sp ta) := by
  refine ⟨fun pins s0 σ H0 R I0 h => thn (he.run pins s0 σ H0 _ I0 h) fun v s ⟨x, H, I, r, q⟩ => ?_⟩
  obtain ⟨a, dx, fs, rfl, ha, hs⟩ := q
  obtain rfl : v = Value.ref a := r
  obtain ⟨mA, O1, _⟩ := ins_get I.hok ha
  obtain ⟨od, J, _⟩ := O1.look
  obtain ⟨m, hF⟩ := I.fr
  refine PySem.W.owit_iter hF I.ok.mod.kin J O.at_ O.fn ?_
  have hl : [V.ref a].length = ps.length := F.len _ _ _ _ _ (hs 0)
  have b := hb s [Value.ref a] I.kIn (by rw [List.append_nil]; exact hl)
  rw [List.append_nil] at b
  refine wpAny_call (codeAny_mono (F.run X.A X.stack s H ⟨[.ref a], []⟩ [.ref a] [.ref a] _ E0 hr I.env0 b (.cons rfl .nil) (hs _)) fun r s' hq => ?_)
  cases r with
  | error er => exact hx pins σ H s er s' I hq
  | ok fl =>
    cases fl with
    | next => exact False.elim hq
    | brk => exact False.elim hq
    | cont => exact False.elim hq
    | ret u =>
      obtain ⟨v, H', os2, bare2, un2, hok2, rv, l, it, xs, rfl, hn, hi, hsq, hR⟩ := hq
      have I' : Inv X pins σ H' s' := I.call' (ch := []) os2 un2 hok2 bare2 fun b z => absurd z (by simp)
      obtain rfl : u = Value.ref it := rv
      have hg := itO_get I' hi
      have st : s'.heap.IsListIter it l 0 := ⟨_, hg, rfl, rfl⟩
      refine sp_next st ?_
      show PIE X pins σ tg R (.ref it) s'
      refine ⟨it, [it], _, Itl X.K l, cut H' it, rfl, inv_drop I' hi, turn_list l it, st, fun c hc => ?_, hR⟩
      obtain rfl : c = it := by simpa using hc
      exact fp_new I I' hn hi
end Z
set_option Elab.async false
set_option linter.all false
set_option autoImplicit false
namespace Z
open PySem L2
/-! the rules whose reading names the place's kit, with the kit told from outside: a block's place leans on its own names -/
section
variable {K : PySem.W.Frag} {X : Cx}
theorem k_ix_list (e : X.K = K) : IxR X (rIxL K) := e ▸ ix_list
theorem k_ix_tup (e : X.K = K) : IxR X (rIxT K) := e ▸ ix_tup
theorem k_sl_list (e : X.K = K) : SlR X (rSlL K) := e ▸ sl_list
theorem k_sl_tupA (e : X.K = K) : SlR X (rSlA K) := e ▸ sl_tupA
theorem k_op_in_seq (e : X.K = K) : OpR X (compareOp .In) (rIn K false) := e ▸ op_in_seq
theorem k_op_notIn_seq (e : X.K = K) : OpR X (compareOp .NotIn) (rIn K true) := e ▸ op_notIn_seq
theorem k_op_eqD (e : X.K = K) (hu : X.A.units + 64 < cLine) : OpR X (compareOp .Eq) (rEqD K) := e ▸ op_eqD hu
theorem k_op_neD (e : X.K = K) (hu : X.A.units + 64 < cLine) : OpR X (compareOp .NotEq) (rNeD K) := e ▸ op_neD hu
theorem k_op_catA (e : X.K = K) : OpR X (binaryOp .Add) (rCatA K) := e ▸ op_catA
theorem k_op_ltT (e : X.K = K) (hu : X.A.units < cLine) : OpR X (compareOp .Lt) (rLtT K) := e ▸ op_ltT hu
theorem k_call_len_seq (e : X.K = K) : CallR X (.builtin "len") fun xs H Q => ∃ p ys, xs = [.ref p] ∧ (SqL K H p ys ∨ SqT K H p ys) ∧ Q (.int ys.length) H := e ▸ call_len_seq
theorem k_call_list_of (e : X.K = K) : CallR X (.type "list") fun xs H Q => ∃ p ys, xs = [.ref p] ∧ (SqL K H p ys ∨ SqT K H p ys) ∧ ∀ l, H l = none → Q (.ref l) (upd H l (.lst ys)) := e ▸ call_list_of
theorem k_call_tuple_of (e : X.K = K) : CallR X (.type "tuple") fun xs H Q => ∃ p ys, xs = [.ref p] ∧ ((SqL K H p ys ∧ ∀ l, H l = none → Q (.ref l) (upd H l (.tup ys))) ∨ (SqT K H p ys ∧ Q (.ref p) H)) := e ▸ call_tuple_of
theorem k_call_isi (e : X.K = K) : CallR X (.builtin "isinstance") (rIsi K) := e ▸ call_isi
theorem k_mt_index (e : X.K = K) : MtR X "list.index" (rIndex K) := e ▸ mt_index
theorem k_pi_list {tg l : Expr} {tl : TE} (e : X.K = K) (h : PE X l tl) : PI X tg l (iList K tl) := e ▸ pi_list h
theorem k_pi_tup {tg l : Expr} {tl : TE} (e : X.K = K) (h : PE X l tl) : PI X tg l (iTup K tl) := e ▸ pi_tup h
theorem k_pi_enum {tg x : Expr} {ta : TA} (e : X.K = K) (h : PI X tg x (iEnum X.K ta)) : PI X tg x (iEnum K ta) := e ▸ h
theorem k_pi_zip {tg x : Expr} {ta : TA} (e : X.K = K) (h : PI X tg x (iZip X.K ta)) : PI X tg x (iZip K ta) := e ▸ h
theorem k_pe_fld {x : Expr} {ta : TE} {f : Str} (e : X.K = K) (h : PE X x (tFld X.K ta f)) : PE X x (tFld K ta f) := e ▸ h
theorem k_ps_fld {x : Stmt} {ta tv : TE} {f : Str} (e : X.K = K) (h : PS X x (sFld X.K ta tv f)) : PS X x (sFld K ta tv f) := e ▸ h
theorem k_pe_bm {x : Expr} {T : String} {r : V → List V → Hp → VK → Prop} {to : TE} {t : TA} (e : X.K = K) (h : PE X x (tBM X.K T r to t)) : PE X x (tBM K T r to t) := e ▸ h
theorem k_pe_bm0 {x : Expr} {T : String} {r : V → List V → Hp → VK → Prop} {to : TE} (e : X.K = K) (h : PE X x (tBM0 X.K T r to)) : PE X x (tBM0 K T r to) := e ▸ h
theorem k_pg_tup {x : Expr} {n : Nat} {t : TGs} (e : X.K = K) (h : PG X x (gTup X.K n t)) : PG X x (gTup K n t) := e ▸ h
theorem k_pe_revL {x : Expr} {te : TE} (e : X.K = K) (h : PE X x (tRevL X.K te)) : PE X x (tRevL K te) := e ▸ h
theorem k_pt_truth {x : Expr} {ta : TE} (e : X.K = K) (h : PT X x fun σ H Q => ta σ H fun v H' => ∃ k, TruV X.K v H' k ∧ Q k H') : PT X x fun σ H Q => ta σ H fun v H' => ∃ k, TruV K v H' k ∧ Q k H' := e ▸ h
end
end Z
set_option Elab.async false
set_option linter.all false
set_option maxRecDepth 100000
set_option maxHeartbeats 2000000
set_option autoImplicit false
namespace Z
open PySem L2
open Evl (Ex)
open Dat
theorem Tups.insU {H : Hp} {p C dx : Addr} {fs : List (Str × V)} {o : HO} (h : H p = some (.ins C dx fs)) : Tups H (L2.upd H p o) := fun a ys r => by
  rcases r with r | ⟨ob, r⟩
  · refine .inl ?_
    rw [upd_ne (fun z => by rw [z, h] at r; cases r)]
    exact r
  · refine .inr ⟨ob, ?_⟩
    rw [upd_ne (fun z => by rw [z, h] at r; cases r)]
    exact r
theorem Reps.int_map {K : PySem.W.Frag} {H : Hp} (ns : List Int) : Reps K H (ns.map V.int) ns := by
  induction ns with
  | nil => exact reps_nil
  | cons n ns ih => exact Reps.cons (rep_int n) ih
/-! ### what is walked as a list's items -/
section
variable {K : PySem.W.Frag} {α β : Type} [Dat α] [Dat β] {σ : L2.St} {G H : Hp} {te tl : TE} {ti : TI} {tt : TT} {i : Nat}
def EIt (K : PySem.W.Frag) {α : Type} [Dat α] (ti : TI) (σ : L2.St) (H : Hp) (xs : List α) : Prop := ∀ H1, Ex H H1 → ∀ R : It → Hp → Prop, (∀ l zs H2, Ex H1 H2 → SqL K H2 l zs → Reps K H2 zs xs → R (Itl K l) H2) → ti σ H1 R
theorem ei_list {xs : List α} (h : ER K tl σ H xs) : EIt K (iList K tl) σ H xs := fun H1 e R q => h H1 e _ fun v H2 e2 r => by
  obtain ⟨a, vs, rfl, s, r⟩ := Rep.list r
  exact ⟨a, rfl, ⟨vs, s⟩, q a vs H2 e2 s r⟩
theorem el_mapI {xs : List α} {f : α → β} [Flat β] (h : EIt K ti σ H xs) (he : ∀ x v H', x ∈ xs → Ex H H' → Rep K H' v x → ER K te ((wipe σ [i]).set i (some v)) H' (f x)) (hz : xs.length ≤ 100000) :
    EL K (tLc ti (gName i) tYes te [i]) σ H (xs.map f) := fun H0 e0 Q q => h H0 e0 _ fun a vs H1 e1 s r => by
  refine fun D hD => lc_list (K := K) (a := a) (xs := vs) (fun j H' => Ex H1 H' ∧ Own K H' D ((xs.take j).map f)) ⟨Evl.Ex.new hD, by simpa using Own.nil⟩ (fun j H' _ z => Evl.ex_l z.1 s) (fun j v H' hj z => ?_) (fun H' z => ?_)
  · obtain ⟨x, hx, rx⟩ := r.got hj
    have hlt : j < xs.length := (List.getElem?_eq_some_iff.mp hx).1
    refine ⟨wipe1 _, he x v H' (List.mem_of_getElem? hx) (e0.trans (e1.trans z.1)) (rx.mono z.1) H' (Ex.refl H') _ fun w H2 e2 rw' => ?_⟩
    obtain ⟨acc, h1, r1⟩ := (z.2.mono e2).ex
    refine ⟨acc, h1, Evl.sz_lt (by rw [r1.len, List.length_map, List.length_take]; omega), ex_mut (z.1.trans e2) hD, acc ++ [w], upd_same, ?_⟩
    rw [cut_upd, show xs.take (j + 1) = xs.take j ++ [x] by rw [List.take_succ, hx]; rfl, List.map_append]
    exact r1.append (Reps.cons (rw'.imm (Tups.cut h1)) reps_nil)
  · have e : xs.take vs.length = xs := by rw [r.len, List.take_length]
    rw [e] at z
    exact q D H' (fresh_back e1 hD) (e1.trans z.1) z.2
theorem el_idI {xs : List α} [Flat α] (h : EIt K ti σ H xs) (hi : i < σ.length) (hz : xs.length ≤ 100000) : EL K (tLc ti (gName i) tYes (tVar i) [i]) σ H xs := by
  have := el_mapI (i := i) (te := tVar i) (f := fun x : α => x) h (fun x v H' _ _ r => er_var (by
    rw [List.getElem?_set_self]
    show i < (σ.set i none).length
    rw [List.length_set]
    exact hi) r (Ex.refl _)) hz
  rwa [List.map_id'] at this
/-! ### raise C(e, ..), of values that stand for data -/
theorem mk_X1R {C : Addr} {f : Str} {x : α} {Q : XK} (h : ER K te σ H x) (k : ∀ v d H', H d = none → Ex H H' → Rep K H' v x → H' d = some (.xd [(f, v)]) → Q (.ref C) (some d) H') : tMkO C (spX1 K C f) [] (tCons te tNil) σ H Q :=
  h H (Ex.refl H) _ fun v H1 e1 r => mk_X1 (K := K) (te := tC v) (σ := σ) (H := H1) (v := v) ev_c fun d H' hd e' hx => k v d H' (fresh_back e1 hd) (e1.trans e') (r.mono e') hx
theorem mk_X2R {C : Addr} {f g : Str} {x : α} {y : β} {Q : XK} (h : ER K te σ H x) (h2 : ER K tl σ H y) (k : ∀ v u d H', H d = none → Ex H H' → Rep K H' v x → Rep K H' u y → H' d = some (.xd [(g, u), (f, v)]) → Q (.ref C) (some d) H') : tMkO C (spX2 K C f g) [] (tCons te (tCons tl tNil)) σ H Q :=
  h H (Ex.refl H) _ fun v H1 e1 r => h2 H1 e1 _ fun u H2 e2 r2 => mk_X2 (K := K) (te := tC v) (tu := tC u) (σ := σ) (H := H2) (v := v) (u := u) ev_c ev_c fun d H' hd e' hx => k v u d H' (fresh_back (e1.trans e2) hd) ((e1.trans e2).trans e') (r.mono (e2.trans e')) (r2.mono e') hx
/-- a field of a caught one -/
theorem er_xf {a C dd : Addr} {f : Str} {fs : List (Str × V)} {v : V} {x : α} (h : EV K te σ H (.ref a)) (hd : G dd = some (.xd fs)) (e : Ex G H) (hl : fs.lookup f = some v) (r : Rep K G v x) : ER K (tXf a (.ref C) (some dd) C f te) σ H x := fun H1 e1 Q q =>
  h H1 e1 _ fun H2 e2 => ⟨rfl, rfl, dd, fs, v, rfl, (e.trans (e1.trans e2)) _ _ hd, hl, q v H2 e2 (r.mono (e.trans (e1.trans e2)))⟩
theorem s_drop {D : Ends} (h : te σ H fun _ H' => D.nx σ H') : tDrop te D σ H := h
theorem s_mkS {C : Addr} {sp : Sp} {E : L2.St → XK} {xs : α} {Q : VK} (h : ER K te σ H xs) (k : ∀ v H1, Ex H H1 → Rep K H1 v xs → ∀ x dx, H1 x = none → H1 dx = none → dx ≠ x → sp [.ref x, v] (upd (upd H1 dx (.own x)) x (.ins C dx [])) (fun v H2 => v = .non ∧ Q (.ref x) H2) (E σ)) :
    tMakeS C sp E (tCons te tNil) σ H Q := h H (Ex.refl H) _ k
/-! ### isinstance of an own instance, of a caught error -/
theorem er_isiO {r C : Addr} {c : V} {cv : Value} {b : Bool} (h : EV K te σ H (.ref r)) (ty : ∀ H2, Ex H H2 → TyX K H2 (.ref r) (.ref C)) (cc : ClsV c cv) (hk : PySem.W.kitOne K (.ref C) cv = some b) :
    ER K (tCB (rIsi K) (tCons te (tCons (tC c) tNil))) σ H b := fun H1 e Q q =>
  h H1 e _ fun H2 e2 => ⟨.ref r, c, .ref C, cv, b, rfl, cc, ty H2 (e.trans e2), hk, q _ H2 e2 (rep_bool _)⟩
theorem er_isX {a C dd : Addr} {fs : List (Str × V)} {c : V} {cv : Value} {b : Bool} (h : EV K te σ H (.ref a)) (hd : G dd = some (.xd fs)) (e : Ex G H) (xc : ExcC K C) (hc : ∀ u, RelV c u → u = cv) (hk : PySem.W.kitOne K (.ref C) cv = some b) :
    ER K (tCB (rIsX K a (.ref C) (some dd)) (tCons te (tCons (tC c) tNil))) σ H b := fun H1 e1 Q q =>
  h H1 e1 _ fun H2 e2 => ⟨c, cv, b, C, dd, fs, rfl, rfl, xc, rfl, (e.trans (e1.trans e2)) _ _ hd, hc, hk, q _ H2 e2 (rep_bool _)⟩
end
end Z
set_option Elab.async false
set_option linter.all false
set_option maxRecDepth 100000
set_option maxHeartbeats 4000000
set_option autoImplicit false
namespace Z
open PySem L2
/-- law(script): True -/
def spLaw (K : PySem.W.Frag) : Sp := fun vs H Q _ => ∃ (a : Addr) (ns : List Int), vs = [.ref a] ∧ SqL K H a (ns.map V.int) ∧ ns.length ≤ 63 ∧ ∀ H', Q (.bl true) H'
theorem walk {k : Nat} {l : PySem.W.OpenLaw} {q : Program} {loose : List Str} {XP : (Str → Option Value) → Heap → Prop} {YP : World → Heap → Prop} {d : DefRec} {K : Params → PySem.W.Frag} (hn : l.most = some 63) (hk : callerA.depth + 3 * k + 5 < recursionLimit) (hk2 : callerA.units + 16 * k + 200 < cLine) (hdf : d.params.defaults = []) (hY : ∀ (w : World) (h : Heap), YP w h → (K w.params).In h)
    (F : ∀ (w : World) (mg : Str → Option Value) (fa : Addr) (h : Heap), (K w.params).In h → h.Ns mainGlobals mg → mg d.name = some (.ref fa) →
      ∃ fd : FuncData, (∀ (s : Shared) (u : Value), BindsTo s fd ⟨[u], []⟩ [("script", u)]) ∧ ∀ base : Heap, (K w.params).In base → base.Ns mainGlobals mg → FnOk l.prog w (K w.params) mg base CX0 k fa fd ["script"] (spLaw (K w.params))) :
    PySem.W.WalkO q loose XP YP l.row.toRowW d [] (fun f vs => PySem.call f vs) :=
  L2.walk_of (n := 63) (k := k) (x := "script") (CX := fun _ => CX0) (sp := fun w => spLaw (K w.params)) hn (by decide) hdf ⟨rfl, hk, hk2⟩ hY F (fun _ _ a ns hl _ hS => ⟨a, ns, rfl, hS, hl, fun _ => rfl⟩) fun _ _ _ _ _ z => z
end Z
set_option Elab.async false
set_option linter.all false
set_option maxRecDepth 100000
set_option maxHeartbeats 4000000
set_option autoImplicit false
namespace Y
open PySem L2 Z
def top (i : Nat) : Stmt := PySem.Challenge.pw_everystepstands_k96_rows_joined_and_turn.main.body.getD i (.Pass ⟨0, 0, 0, 0⟩)
abbrev s_NotARoww_initw : Stmt := inClass (top 2) 0
abbrev s_RowsApartw_initw : Stmt := inClass (top 3) 0
abbrev s_Roww_initw : Stmt := inClass (top 5) 0
abbrev s_Row_start : Stmt := inClass (top 5) 1
abbrev s_Row_goal : Stmt := inClass (top 5) 2
abbrev s_Row_steps : Stmt := inClass (top 5) 3
abbrev s_Row_back : Stmt := inClass (top 5) 4
abbrev s_Roww_addw : Stmt := inClass (top 5) 5
abbrev s_Roww_iterw : Stmt := inClass (top 5) 6
abbrev s_law_cell : Stmt := top 7
abbrev s_law_draw : Stmt := top 8
abbrev s_law_settings : Stmt := top 9
abbrev s_law_equal : Stmt := top 10
abbrev s_law_stands : Stmt := top 11
abbrev s_law_refused : Stmt := top 12
abbrev s_law_sum_stands : Stmt := top 13
abbrev s_law : Stmt := top 14
abbrev N_NotARoww_initw : List Str := ["self", "index"]
theorem sc_NotARoww_initw : FnScopeS N_NotARoww_initw ["self", "index"] (defScope s_NotARoww_initw) := ⟨rfl, rfl, rfl, by decide +kernel, rfl, by decide +kernel, by decide +kernel, by decide +kernel, rfl, rfl⟩
abbrev N_RowsApartw_initw : List Str := ["self", "first", "second"]
theorem sc_RowsApartw_initw : FnScopeS N_RowsApartw_initw ["self", "first", "second"] (defScope s_RowsApartw_initw) := ⟨rfl, rfl, rfl, by decide +kernel, rfl, by decide +kernel, by decide +kernel, by decide +kernel, rfl, rfl⟩
abbrev N_Roww_initw : List Str := ["self", "settings", "index", "setting"]
theorem sc_Roww_initw : FnScope N_Roww_initw ["self", "settings"] (defScope s_Roww_initw) := ⟨rfl, rfl, rfl, by decide +kernel, rfl, by decide +kernel, by decide +kernel⟩
abbrev N_Row_start : List Str := ["self"]
theorem sc_Row_start : FnScope N_Row_start ["self"] (defScope s_Row_start) := ⟨rfl, rfl, rfl, by decide +kernel, rfl, by decide +kernel, by decide +kernel⟩
abbrev N_Row_goal : List Str := ["self"]
theorem sc_Row_goal : FnScope N_Row_goal ["self"] (defScope s_Row_goal) := ⟨rfl, rfl, rfl, by decide +kernel, rfl, by decide +kernel, by decide +kernel⟩
abbrev N_Row_steps : List Str := ["self"]
theorem sc_Row_steps : FnScope N_Row_steps ["self"] (defScope s_Row_steps) := ⟨rfl, rfl, rfl, by decide +kernel, rfl, by decide +kernel, by decide +kernel⟩
abbrev N_Row_back : List Str := ["self"]
theorem sc_Row_back : FnScope N_Row_back ["self"] (defScope s_Row_back) := ⟨rfl, rfl, rfl, by decide +kernel, rfl, by decide +kernel, by decide +kernel⟩
abbrev N_Roww_addw : List Str := ["self", "other"]
theorem sc_Roww_addw : FnScope N_Roww_addw ["self", "other"] (defScope s_Roww_addw) := ⟨rfl, rfl, rfl, by decide +kernel, rfl, by decide +kernel, by decide +kernel⟩
abbrev N_Roww_iterw : List Str := ["self"]
theorem sc_Roww_iterw : FnScope N_Roww_iterw ["self"] (defScope s_Roww_iterw) := ⟨rfl, rfl, rfl, by decide +kernel, rfl, by decide +kernel, by decide +kernel⟩
abbrev N_law_cell : List Str := ["script", "k"]
theorem sc_law_cell : FnScope N_law_cell ["script", "k"] (defScope s_law_cell) := ⟨rfl, rfl, rfl, by decide +kernel, rfl, by decide +kernel, by decide +kernel⟩
abbrev N_law_draw : List Str := ["cell", "bases", "drawn", "rest", "base", "state"]
theorem sc_law_draw : FnScope N_law_draw ["cell", "bases"] (defScope s_law_draw) := ⟨rfl, rfl, rfl, by decide +kernel, rfl, by decide +kernel, by decide +kernel⟩
abbrev N_law_settings : List Str := ["cell", "count", "size", "values", "digit", "k"]
theorem sc_law_settings : FnScope N_law_settings ["cell", "count", "size"] (defScope s_law_settings) := ⟨rfl, rfl, rfl, by decide +kernel, rfl, by decide +kernel, by decide +kernel⟩
abbrev N_law_equal : List Str := ["actual", "expected", "k", "j", "value"]
theorem sc_law_equal : FnScope N_law_equal ["actual", "expected"] (defScope s_law_equal) := ⟨rfl, rfl, rfl, by decide +kernel, rfl, by decide +kernel, by decide +kernel⟩
abbrev N_law_stands : List Str := ["row", "settings", "steps", "setting"]
theorem sc_law_stands : FnScope N_law_stands ["row", "settings"] (defScope s_law_stands) := ⟨rfl, rfl, rfl, by decide +kernel, rfl, by decide +kernel, by decide +kernel⟩
abbrev N_law_refused : List Str := ["settings", "index", "e"]
theorem sc_law_refused : FnScope N_law_refused ["settings", "index"] (defScope s_law_refused) := ⟨rfl, rfl, rfl, by decide +kernel, rfl, by decide +kernel, by decide +kernel⟩
abbrev N_law_sum_stands : List Str := ["first", "second", "settings", "others", "joined", "ends", "e"]
theorem sc_law_sum_stands : FnScope N_law_sum_stands ["first", "second", "settings", "others"] (defScope s_law_sum_stands) := ⟨rfl, rfl, rfl, by decide +kernel, rfl, by decide +kernel, by decide +kernel⟩
abbrev N_law : List Str := ["script", "shape", "size", "counts", "settings", "others", "large", "passed", "row", "other", "wrong", "at"]
theorem sc_law : FnScope N_law ["script"] (defScope s_law) := ⟨rfl, rfl, rfl, by decide +kernel, rfl, by decide +kernel, by decide +kernel⟩
structure Ad where
  C_StepError : Addr
  C_NotARow : Addr
  f_NotARoww_initw : Addr
  d_NotARoww_initw : FuncData
  k_NotARoww_initw : Addr
  c_NotARoww_initw : Addr
  C_RowsApart : Addr
  f_RowsApartw_initw : Addr
  d_RowsApartw_initw : FuncData
  k_RowsApartw_initw : Addr
  c_RowsApartw_initw : Addr
  C_Row : Addr
  f_Roww_initw : Addr
  d_Roww_initw : FuncData
  f_Row_start : Addr
  d_Row_start : FuncData
  p_Row_start : Addr
  f_Row_goal : Addr
  d_Row_goal : FuncData
  p_Row_goal : Addr
  f_Row_steps : Addr
  d_Row_steps : FuncData
  p_Row_steps : Addr
  f_Row_back : Addr
  d_Row_back : FuncData
  f_Roww_addw : Addr
  d_Roww_addw : FuncData
  f_Roww_iterw : Addr
  d_Roww_iterw : FuncData
  f_law_cell : Addr
  d_law_cell : FuncData
  f_law_draw : Addr
  d_law_draw : FuncData
  f_law_settings : Addr
  d_law_settings : FuncData
  f_law_equal : Addr
  d_law_equal : FuncData
  f_law_stands : Addr
  d_law_stands : FuncData
  f_law_refused : Addr
  d_law_refused : FuncData
  f_law_sum_stands : Addr
  d_law_sum_stands : FuncData
  f_law : Addr
  d_law : FuncData
structure Txt (P : Program) (K : PySem.W.Frag) (mg : Str → Option Value) (a : Ad) : Prop where
  z_ValueError : mg "ValueError" = none
  z_bool : mg "bool" = none
  z_enumerate : mg "enumerate" = none
  z_int : mg "int" = none
  z_isinstance : mg "isinstance" = none
  z_iter : mg "iter" = none
  z_len : mg "len" = none
  z_list : mg "list" = none
  z_range : mg "range" = none
  z_super : mg "super" = none
  z_tuple : mg "tuple" = none
  m_StepError : mg "StepError" = some (.ref a.C_StepError)
  xc_StepError : ExcC K a.C_StepError
  xf_StepError : XfC K a.C_StepError
  m_NotARow : mg "NotARow" = some (.ref a.C_NotARow)
  xc_NotARow : ExcC K a.C_NotARow
  xf_NotARow : XfC K a.C_NotARow
  F_NotARoww_initw : SupF P K mg "__init__" "NotARow.__init__" s_NotARoww_initw a.f_NotARoww_initw a.k_NotARoww_initw a.c_NotARoww_initw a.C_NotARow a.d_NotARoww_initw
  S_NotARoww_initw : SupE K a.C_NotARow a.C_NotARow
  b_NotARoww_initw : Binds K a.d_NotARoww_initw ["self", "index"] []
  i_NotARoww_initw : PySem.W.findIn K (.ref a.C_NotARow) "__init__" = some (some (.ref a.f_NotARoww_initw))
  ti_NotARoww_initw : PySem.W.typeIn K (.ref a.f_NotARoww_initw) = some (.type "function")
  nf_NotARow_index : PySem.W.findIn K (.ref a.C_NotARow) "index" = some none
  m_RowsApart : mg "RowsApart" = some (.ref a.C_RowsApart)
  xc_RowsApart : ExcC K a.C_RowsApart
  xf_RowsApart : XfC K a.C_RowsApart
  F_RowsApartw_initw : SupF P K mg "__init__" "RowsApart.__init__" s_RowsApartw_initw a.f_RowsApartw_initw a.k_RowsApartw_initw a.c_RowsApartw_initw a.C_RowsApart a.d_RowsApartw_initw
  S_RowsApartw_initw : SupE K a.C_RowsApart a.C_RowsApart
  b_RowsApartw_initw : Binds K a.d_RowsApartw_initw ["self", "first", "second"] []
  i_RowsApartw_initw : PySem.W.findIn K (.ref a.C_RowsApart) "__init__" = some (some (.ref a.f_RowsApartw_initw))
  ti_RowsApartw_initw : PySem.W.typeIn K (.ref a.f_RowsApartw_initw) = some (.type "function")
  nf_RowsApart_first : PySem.W.findIn K (.ref a.C_RowsApart) "first" = some none
  nf_RowsApart_second : PySem.W.findIn K (.ref a.C_RowsApart) "second" = some none
  m_Row : mg "Row" = some (.ref a.C_Row)
  cl_Row : Cls K a.C_Row
  ty_Row : ∀ (H : Hp) (x dx : Addr) (fs : List (Str × V)), H x = some (.ins a.C_Row dx fs) → TyX K H (.ref x) (.ref a.C_Row)
  na_Row_settings : NoAttr K a.C_Row "settings"
  F_Roww_initw : Fun K "__init__" "Row.__init__" s_Roww_initw a.f_Roww_initw a.d_Roww_initw
  b_Roww_initw : Binds K a.d_Roww_initw ["self", "settings"] []
  mk_Row : Mk K a.C_Row a.f_Roww_initw
  p_Row_start : PropOf K a.C_Row "start" a.p_Row_start a.f_Row_start
  F_Row_start : Fun K "start" "Row.start" s_Row_start a.f_Row_start a.d_Row_start
  b_Row_start : Binds K a.d_Row_start ["self"] []
  p_Row_goal : PropOf K a.C_Row "goal" a.p_Row_goal a.f_Row_goal
  F_Row_goal : Fun K "goal" "Row.goal" s_Row_goal a.f_Row_goal a.d_Row_goal
  b_Row_goal : Binds K a.d_Row_goal ["self"] []
  p_Row_steps : PropOf K a.C_Row "steps" a.p_Row_steps a.f_Row_steps
  F_Row_steps : Fun K "steps" "Row.steps" s_Row_steps a.f_Row_steps a.d_Row_steps
  b_Row_steps : Binds K a.d_Row_steps ["self"] []
  F_Row_back : Fun K "back" "Row.back" s_Row_back a.f_Row_back a.d_Row_back
  b_Row_back : Binds K a.d_Row_back ["self"] []
  me_Row_back : Meth K a.C_Row "back" a.f_Row_back
  F_Roww_addw : Fun K "__add__" "Row.__add__" s_Roww_addw a.f_Roww_addw a.d_Roww_addw
  b_Roww_addw : Binds K a.d_Roww_addw ["self", "other"] []
  op_Roww_addw : OpC K a.C_Row a.f_Roww_addw "__add__"
  F_Roww_iterw : Fun K "__iter__" "Row.__iter__" s_Roww_iterw a.f_Roww_iterw a.d_Roww_iterw
  b_Roww_iterw : Binds K a.d_Roww_iterw ["self"] []
  oi_Row : OwnIt K a.C_Row a.f_Roww_iterw
  m__law_cell : mg "_law_cell" = some (.ref a.f_law_cell)
  F_law_cell : Fun K "_law_cell" "_law_cell" s_law_cell a.f_law_cell a.d_law_cell
  b_law_cell : Binds K a.d_law_cell ["script", "k"] []
  m__law_draw : mg "_law_draw" = some (.ref a.f_law_draw)
  F_law_draw : Fun K "_law_draw" "_law_draw" s_law_draw a.f_law_draw a.d_law_draw
  b_law_draw : Binds K a.d_law_draw ["cell", "bases"] []
  m__law_settings : mg "_law_settings" = some (.ref a.f_law_settings)
  F_law_settings : Fun K "_law_settings" "_law_settings" s_law_settings a.f_law_settings a.d_law_settings
  b_law_settings : Binds K a.d_law_settings ["cell", "count", "size"] []
  m__law_equal : mg "_law_equal" = some (.ref a.f_law_equal)
  F_law_equal : Fun K "_law_equal" "_law_equal" s_law_equal a.f_law_equal a.d_law_equal
  b_law_equal : Binds K a.d_law_equal ["actual", "expected"] []
  m__law_stands : mg "_law_stands" = some (.ref a.f_law_stands)
  F_law_stands : Fun K "_law_stands" "_law_stands" s_law_stands a.f_law_stands a.d_law_stands
  b_law_stands : Binds K a.d_law_stands ["row", "settings"] []
  m__law_refused : mg "_law_refused" = some (.ref a.f_law_refused)
  F_law_refused : Fun K "_law_refused" "_law_refused" s_law_refused a.f_law_refused a.d_law_refused
  b_law_refused : Binds K a.d_law_refused ["settings", "index"] []
  m__law_sum_stands : mg "_law_sum_stands" = some (.ref a.f_law_sum_stands)
  F_law_sum_stands : Fun K "_law_sum_stands" "_law_sum_stands" s_law_sum_stands a.f_law_sum_stands a.d_law_sum_stands
  b_law_sum_stands : Binds K a.d_law_sum_stands ["first", "second", "settings", "others"] []
  m_law : mg "law" = some (.ref a.f_law)
  F_law : Fun K "law" "law" s_law a.f_law a.d_law
  b_law : Binds K a.d_law ["script"] []
  kit_Row_Row : PySem.W.kitOne K (.ref a.C_Row) (.ref a.C_Row) = some true
  kit_NotARow_StepError : PySem.W.kitOne K (.ref a.C_NotARow) (.ref a.C_StepError) = some true
  kit_NotARow_ValueError : PySem.W.kitOne K (.ref a.C_NotARow) (.type "ValueError") = some true
  kit_NotARow_RowsApart : PySem.W.kitOne K (.ref a.C_NotARow) (.ref a.C_RowsApart) = some false
  kit_RowsApart_StepError : PySem.W.kitOne K (.ref a.C_RowsApart) (.ref a.C_StepError) = some true
  kit_RowsApart_NotARow : PySem.W.kitOne K (.ref a.C_RowsApart) (.ref a.C_NotARow) = some false
  exm_NotARow_NotARow : PySem.W.exmOne K (.ref a.C_NotARow) (.ref a.C_NotARow) = some true
  exm_RowsApart_RowsApart : PySem.W.exmOne K (.ref a.C_RowsApart) (.ref a.C_RowsApart) = some true
  exm_NotARow_RowsApart : PySem.W.exmOne K (.ref a.C_NotARow) (.ref a.C_RowsApart) = some false
theorem all_mk {P : Program} {K : PySem.W.Frag} {h : Heap} {mg : Str → Option Value} (X : K.In h) (G : h.Ns mainGlobals mg)
  {C_StepError : Addr}
  {C_NotARow : Addr}
  {f_NotARoww_initw k_NotARoww_initw c_NotARoww_initw : Addr}
  {oc_NotARoww_initw dc_NotARoww_initw pm_NotARoww_initw ct_NotARoww_initw ccl_NotARoww_initw cl_NotARoww_initw : Value} {od_NotARoww_initw an_NotARoww_initw cdd_NotARoww_initw cld_NotARoww_initw : Option Addr} {sl_NotARoww_initw ccs_NotARoww_initw csl_NotARoww_initw : Array (Option Value)} {vs_NotARoww_initw : Array Value} {file_NotARoww_initw : Str} {tf_NotARoww_initw : Tok}
  {nm_NotARoww_initw qn_NotARoww_initw : Str} {Nn_NotARoww_initw : Addr} {bs_NotARoww_initw sub_NotARoww_initw : List Value} {sn_NotARoww_initw : List Str} {ab_NotARoww_initw : Bool} {col_NotARoww_initw : Option Bool} {dd_NotARoww_initw : Option Addr} {k0_NotARoww_initw k1_NotARoww_initw k2_NotARoww_initw k3_NotARoww_initw k5_NotARoww_initw : Option Value}
  {C_RowsApart : Addr}
  {f_RowsApartw_initw k_RowsApartw_initw c_RowsApartw_initw : Addr}
  {oc_RowsApartw_initw dc_RowsApartw_initw pm_RowsApartw_initw ct_RowsApartw_initw ccl_RowsApartw_initw cl_RowsApartw_initw : Value} {od_RowsApartw_initw an_RowsApartw_initw cdd_RowsApartw_initw cld_RowsApartw_initw : Option Addr} {sl_RowsApartw_initw ccs_RowsApartw_initw csl_RowsApartw_initw : Array (Option Value)} {vs_RowsApartw_initw : Array Value} {file_RowsApartw_initw : Str} {tf_RowsApartw_initw : Tok}
  {nm_RowsApartw_initw qn_RowsApartw_initw : Str} {Nn_RowsApartw_initw : Addr} {bs_RowsApartw_initw sub_RowsApartw_initw : List Value} {sn_RowsApartw_initw : List Str} {ab_RowsApartw_initw : Bool} {col_RowsApartw_initw : Option Bool} {dd_RowsApartw_initw : Option Addr} {k0_RowsApartw_initw k1_RowsApartw_initw k2_RowsApartw_initw k3_RowsApartw_initw k5_RowsApartw_initw : Option Value}
  {C_Row : Addr}
  {f_Roww_initw : Addr} {oc_Roww_initw kV_Roww_initw dc_Roww_initw pm_Roww_initw cd_Roww_initw ct_Roww_initw : Value} {od_Roww_initw an_Roww_initw : Option Addr} {sl_Roww_initw : Array (Option Value)}
  {f_Row_start : Addr} {oc_Row_start kV_Row_start dc_Row_start pm_Row_start cd_Row_start ct_Row_start : Value} {od_Row_start an_Row_start : Option Addr} {sl_Row_start : Array (Option Value)}
  {p_Row_start : Addr}
  {pr_Row_start : List Value}
  {f_Row_goal : Addr} {oc_Row_goal kV_Row_goal dc_Row_goal pm_Row_goal cd_Row_goal ct_Row_goal : Value} {od_Row_goal an_Row_goal : Option Addr} {sl_Row_goal : Array (Option Value)}
  {p_Row_goal : Addr}
  {pr_Row_goal : List Value}
  {f_Row_steps : Addr} {oc_Row_steps kV_Row_steps dc_Row_steps pm_Row_steps cd_Row_steps ct_Row_steps : Value} {od_Row_steps an_Row_steps : Option Addr} {sl_Row_steps : Array (Option Value)}
  {p_Row_steps : Addr}
  {pr_Row_steps : List Value}
  {f_Row_back : Addr} {oc_Row_back kV_Row_back dc_Row_back pm_Row_back cd_Row_back ct_Row_back : Value} {od_Row_back an_Row_back : Option Addr} {sl_Row_back : Array (Option Value)}
  {f_Roww_addw : Addr} {oc_Roww_addw kV_Roww_addw dc_Roww_addw pm_Roww_addw cd_Roww_addw ct_Roww_addw : Value} {od_Roww_addw an_Roww_addw : Option Addr} {sl_Roww_addw : Array (Option Value)}
  {f_Roww_iterw : Addr} {oc_Roww_iterw kV_Roww_iterw dc_Roww_iterw pm_Roww_iterw cd_Roww_iterw ct_Roww_iterw : Value} {od_Roww_iterw an_Roww_iterw : Option Addr} {sl_Roww_iterw : Array (Option Value)}
  {f_law_cell : Addr} {oc_law_cell kV_law_cell dc_law_cell pm_law_cell cd_law_cell ct_law_cell : Value} {od_law_cell an_law_cell : Option Addr} {sl_law_cell : Array (Option Value)}
  {f_law_draw : Addr} {oc_law_draw kV_law_draw dc_law_draw pm_law_draw cd_law_draw ct_law_draw : Value} {od_law_draw an_law_draw : Option Addr} {sl_law_draw : Array (Option Value)}
  {f_law_settings : Addr} {oc_law_settings kV_law_settings dc_law_settings pm_law_settings cd_law_settings ct_law_settings : Value} {od_law_settings an_law_settings : Option Addr} {sl_law_settings : Array (Option Value)}
  {f_law_equal : Addr} {oc_law_equal kV_law_equal dc_law_equal pm_law_equal cd_law_equal ct_law_equal : Value} {od_law_equal an_law_equal : Option Addr} {sl_law_equal : Array (Option Value)}
  {f_law_stands : Addr} {oc_law_stands kV_law_stands dc_law_stands pm_law_stands cd_law_stands ct_law_stands : Value} {od_law_stands an_law_stands : Option Addr} {sl_law_stands : Array (Option Value)}
  {f_law_refused : Addr} {oc_law_refused kV_law_refused dc_law_refused pm_law_refused cd_law_refused ct_law_refused : Value} {od_law_refused an_law_refused : Option Addr} {sl_law_refused : Array (Option Value)}
  {f_law_sum_stands : Addr} {oc_law_sum_stands kV_law_sum_stands dc_law_sum_stands pm_law_sum_stands cd_law_sum_stands ct_law_sum_stands : Value} {od_law_sum_stands an_law_sum_stands : Option Addr} {sl_law_sum_stands : Array (Option Value)}
  {f_law : Addr} {oc_law kV_law dc_law pm_law cd_law ct_law : Value} {od_law an_law : Option Addr} {sl_law : Array (Option Value)}
  (z_ValueError : PySem.W.nsIn K mainGlobals "ValueError" = some none)
  (z_bool : PySem.W.nsIn K mainGlobals "bool" = some none)
  (z_enumerate : PySem.W.nsIn K mainGlobals "enumerate" = some none)
  (z_int : PySem.W.nsIn K mainGlobals "int" = some none)
  (z_isinstance : PySem.W.nsIn K mainGlobals "isinstance" = some none)
  (z_iter : PySem.W.nsIn K mainGlobals "iter" = some none)
  (z_len : PySem.W.nsIn K mainGlobals "len" = some none)
  (z_list : PySem.W.nsIn K mainGlobals "list" = some none)
  (z_range : PySem.W.nsIn K mainGlobals "range" = some none)
  (z_super : PySem.W.nsIn K mainGlobals "super" = some none)
  (z_tuple : PySem.W.nsIn K mainGlobals "tuple" = some none)
  (m_StepError : PySem.W.nsIn K mainGlobals "StepError" = some (some (.ref C_StepError)))
  (hg_StepError : PySem.W.findIn K (.ref C_StepError) "__getattribute__" = some (some (.builtin "BaseException.__getattribute__")))
  (hk_StepError : PySem.W.findIn K (.ref C_StepError) "__getattr__" = some none)
  (hs_StepError : PySem.W.subIn K (.ref C_StepError) (.type "BaseException") = some true)
  (hd_StepError : PySem.W.hasDictIn K C_StepError = true)
  (ha_StepError : PySem.W.findIn K (.ref C_StepError) "__class__" = some (some (.builtin "object.__class__")))
  (hm_StepError : PySem.W.mroIn K C_StepError (.type "object") = some true)
  (m_NotARow : PySem.W.nsIn K mainGlobals "NotARow" = some (some (.ref C_NotARow)))
  (hg_NotARow : PySem.W.findIn K (.ref C_NotARow) "__getattribute__" = some (some (.builtin "BaseException.__getattribute__")))
  (hk_NotARow : PySem.W.findIn K (.ref C_NotARow) "__getattr__" = some none)
  (hs_NotARow : PySem.W.subIn K (.ref C_NotARow) (.type "BaseException") = some true)
  (hd_NotARow : PySem.W.hasDictIn K C_NotARow = true)
  (ha_NotARow : PySem.W.findIn K (.ref C_NotARow) "__class__" = some (some (.builtin "object.__class__")))
  (hm_NotARow : PySem.W.mroIn K C_NotARow (.type "object") = some true)
  (x_NotARoww_initw : K.lookup C_NotARow = some (excClassObj nm_NotARoww_initw qn_NotARoww_initw C_NotARow Nn_NotARoww_initw bs_NotARoww_initw [(.ref C_StepError), (.type "ValueError"), (.type "Exception"), (.type "BaseException"), (.type "object")] true sn_NotARoww_initw sub_NotARoww_initw ab_NotARoww_initw col_NotARoww_initw dd_NotARoww_initw k0_NotARoww_initw k1_NotARoww_initw k2_NotARoww_initw k3_NotARoww_initw k5_NotARoww_initw "ValueError.__new__"))
  (rv_NotARoww_initw : PySem.HandSPX.refsVE [(.ref C_StepError), (.type "ValueError"), (.type "Exception"), (.type "BaseException"), (.type "object")] = true)
  (i_NotARoww_initw : PySem.W.findIn K (.ref C_NotARow) "__init__" = some (some (.ref f_NotARoww_initw)))
  (l_NotARoww_initw : K.lookup f_NotARoww_initw = some ⟨oc_NotARoww_initw, od_NotARoww_initw, .func (PySem.W.ksFn "__init__" "NotARow.__init__" (defArgs s_NotARoww_initw) (defBody s_NotARoww_initw) (defScope s_NotARoww_initw) .none .none dc_NotARoww_initw pm_NotARoww_initw an_NotARoww_initw (.ref k_NotARoww_initw) ct_NotARoww_initw c_NotARoww_initw), sl_NotARoww_initw⟩)
  (cd_NotARoww_initw : PySem.W.codeIn K (.ref k_NotARoww_initw) "NotARow.__init__" = true)
  (kc_NotARoww_initw : K.lookup k_NotARoww_initw = some ⟨ccl_NotARoww_initw, cdd_NotARoww_initw, .fields vs_NotARoww_initw, ccs_NotARoww_initw⟩)
  (kv_NotARoww_initw : vs_NotARoww_initw[2]? = some (.str file_NotARoww_initw tf_NotARoww_initw))
  (kf_NotARoww_initw : (P.main.file == file_NotARoww_initw) = true)
  (cc_NotARoww_initw : K.lookup c_NotARoww_initw = some ⟨cl_NotARoww_initw, cld_NotARoww_initw, .cell (some (.ref C_NotARow)), csl_NotARoww_initw⟩)
  (kp_NotARoww_initw : PySem.W.keepIn K (.ref f_NotARoww_initw) = true)
  (ti_NotARoww_initw : PySem.W.typeIn K (.ref f_NotARoww_initw) = some (.type "function"))
  (ic_NotARoww_initw : PySem.W.isClsIn K C_NotARow = true)
  (sa_NotARoww_initw : PySem.W.findIn K (.ref C_NotARow) "__setattr__" = some (some (.builtin "object.__setattr__")))
  (ty_NotARoww_initw : PySem.W.typeIn K (.ref C_NotARow) = some (.type "type"))
  (ke_NotARoww_initw : PySem.W.keepIn K (.ref C_NotARow) = true)
  (su_NotARoww_initw : PySem.W.ks_superIn K C_NotARow C_NotARow "__init__" = some (some (.builtin "ValueError.__init__")))
  (ve_NotARoww_initw : PySem.W.subIn K (.ref C_NotARow) (.type "ValueError") = some true)
  (mr_NotARoww_initw : PySem.W.mroIn K C_NotARow (.ref C_NotARow) = some true)
  (nf_NotARow_index : PySem.W.findIn K (.ref C_NotARow) "index" = some none)
  (m_RowsApart : PySem.W.nsIn K mainGlobals "RowsApart" = some (some (.ref C_RowsApart)))
  (hg_RowsApart : PySem.W.findIn K (.ref C_RowsApart) "__getattribute__" = some (some (.builtin "BaseException.__getattribute__")))
  (hk_RowsApart : PySem.W.findIn K (.ref C_RowsApart) "__getattr__" = some none)
  (hs_RowsApart : PySem.W.subIn K (.ref C_RowsApart) (.type "BaseException") = some true)
  (hd_RowsApart : PySem.W.hasDictIn K C_RowsApart = true)
  (ha_RowsApart : PySem.W.findIn K (.ref C_RowsApart) "__class__" = some (some (.builtin "object.__class__")))
  (hm_RowsApart : PySem.W.mroIn K C_RowsApart (.type "object") = some true)
  (x_RowsApartw_initw : K.lookup C_RowsApart = some (excClassObj nm_RowsApartw_initw qn_RowsApartw_initw C_RowsApart Nn_RowsApartw_initw bs_RowsApartw_initw [(.ref C_StepError), (.type "ValueError"), (.type "Exception"), (.type "BaseException"), (.type "object")] true sn_RowsApartw_initw sub_RowsApartw_initw ab_RowsApartw_initw col_RowsApartw_initw dd_RowsApartw_initw k0_RowsApartw_initw k1_RowsApartw_initw k2_RowsApartw_initw k3_RowsApartw_initw k5_RowsApartw_initw "ValueError.__new__"))
  (rv_RowsApartw_initw : PySem.HandSPX.refsVE [(.ref C_StepError), (.type "ValueError"), (.type "Exception"), (.type "BaseException"), (.type "object")] = true)
  (i_RowsApartw_initw : PySem.W.findIn K (.ref C_RowsApart) "__init__" = some (some (.ref f_RowsApartw_initw)))
  (l_RowsApartw_initw : K.lookup f_RowsApartw_initw = some ⟨oc_RowsApartw_initw, od_RowsApartw_initw, .func (PySem.W.ksFn "__init__" "RowsApart.__init__" (defArgs s_RowsApartw_initw) (defBody s_RowsApartw_initw) (defScope s_RowsApartw_initw) .none .none dc_RowsApartw_initw pm_RowsApartw_initw an_RowsApartw_initw (.ref k_RowsApartw_initw) ct_RowsApartw_initw c_RowsApartw_initw), sl_RowsApartw_initw⟩)
  (cd_RowsApartw_initw : PySem.W.codeIn K (.ref k_RowsApartw_initw) "RowsApart.__init__" = true)
  (kc_RowsApartw_initw : K.lookup k_RowsApartw_initw = some ⟨ccl_RowsApartw_initw, cdd_RowsApartw_initw, .fields vs_RowsApartw_initw, ccs_RowsApartw_initw⟩)
  (kv_RowsApartw_initw : vs_RowsApartw_initw[2]? = some (.str file_RowsApartw_initw tf_RowsApartw_initw))
  (kf_RowsApartw_initw : (P.main.file == file_RowsApartw_initw) = true)
  (cc_RowsApartw_initw : K.lookup c_RowsApartw_initw = some ⟨cl_RowsApartw_initw, cld_RowsApartw_initw, .cell (some (.ref C_RowsApart)), csl_RowsApartw_initw⟩)
  (kp_RowsApartw_initw : PySem.W.keepIn K (.ref f_RowsApartw_initw) = true)
  (ti_RowsApartw_initw : PySem.W.typeIn K (.ref f_RowsApartw_initw) = some (.type "function"))
  (ic_RowsApartw_initw : PySem.W.isClsIn K C_RowsApart = true)
  (sa_RowsApartw_initw : PySem.W.findIn K (.ref C_RowsApart) "__setattr__" = some (some (.builtin "object.__setattr__")))
  (ty_RowsApartw_initw : PySem.W.typeIn K (.ref C_RowsApart) = some (.type "type"))
  (ke_RowsApartw_initw : PySem.W.keepIn K (.ref C_RowsApart) = true)
  (su_RowsApartw_initw : PySem.W.ks_superIn K C_RowsApart C_RowsApart "__init__" = some (some (.builtin "ValueError.__init__")))
  (ve_RowsApartw_initw : PySem.W.subIn K (.ref C_RowsApart) (.type "ValueError") = some true)
  (mr_RowsApartw_initw : PySem.W.mroIn K C_RowsApart (.ref C_RowsApart) = some true)
  (nf_RowsApart_first : PySem.W.findIn K (.ref C_RowsApart) "first" = some none)
  (nf_RowsApart_second : PySem.W.findIn K (.ref C_RowsApart) "second" = some none)
  (m_Row : PySem.W.nsIn K mainGlobals "Row" = some (some (.ref C_Row)))
  (pg_Row : PySem.W.plainGet K C_Row Str.empty = true)
  (hd_Row : PySem.W.hasDictIn K C_Row = true)
  (po_Row : PySem.W.plainOver K C_Row = true)
  (sa_Row : PySem.W.findIn K (.ref C_Row) "__setattr__" = some (some (.builtin "object.__setattr__")))
  (ha_Row : PySem.W.findIn K (.ref C_Row) "__class__" = some (some (.builtin "object.__class__")))
  (hm_Row : PySem.W.mroIn K C_Row (.type "object") = some true)
  (na_Row_settings : PySem.W.findIn K (.ref C_Row) "settings" = some none)
  (me_Roww_initw : PySem.W.findIn K (.ref C_Row) "__init__" = some (some (.ref f_Roww_initw)))
  (l_Roww_initw : K.lookup f_Roww_initw = some ⟨oc_Roww_initw, od_Roww_initw, .func (PySem.W.fnOf "__init__" "Row.__init__" (defArgs s_Roww_initw) (defBody s_Roww_initw) (defScope s_Roww_initw) .none kV_Roww_initw dc_Roww_initw pm_Roww_initw an_Roww_initw cd_Roww_initw ct_Roww_initw), sl_Roww_initw⟩)
  (c_Roww_initw : PySem.W.codeIn K cd_Roww_initw "Row.__init__" = true)
  (k_Roww_initw : PySem.W.keepIn K (.ref f_Roww_initw) = true)
  (fn_Roww_initw : PySem.W.isFn K (.ref f_Roww_initw) = true)
  (mk_Row : PySem.W.makesIn K C_Row = true)
  (kc_Row : PySem.W.keepIn K (.ref C_Row) = true)
  (pa_Row_start : PySem.W.findIn K (.ref C_Row) "start" = some (some (.ref p_Row_start)))
  (pr_Row_start : PySem.W.recIn K p_Row_start "property" = some (.ref f_Row_start :: pr_Row_start))
  (pt_Row_start : PySem.W.specialIn K (.ref p_Row_start) "__get__" = some (some (.builtin "property.__get__")))
  (pk_Row_start : PySem.W.takesIn K (.ref p_Row_start) = some true)
  (l_Row_start : K.lookup f_Row_start = some ⟨oc_Row_start, od_Row_start, .func (PySem.W.fnOf "start" "Row.start" (defArgs s_Row_start) (defBody s_Row_start) (defScope s_Row_start) .none kV_Row_start dc_Row_start pm_Row_start an_Row_start cd_Row_start ct_Row_start), sl_Row_start⟩)
  (c_Row_start : PySem.W.codeIn K cd_Row_start "Row.start" = true)
  (k_Row_start : PySem.W.keepIn K (.ref f_Row_start) = true)
  (pa_Row_goal : PySem.W.findIn K (.ref C_Row) "goal" = some (some (.ref p_Row_goal)))
  (pr_Row_goal : PySem.W.recIn K p_Row_goal "property" = some (.ref f_Row_goal :: pr_Row_goal))
  (pt_Row_goal : PySem.W.specialIn K (.ref p_Row_goal) "__get__" = some (some (.builtin "property.__get__")))
  (pk_Row_goal : PySem.W.takesIn K (.ref p_Row_goal) = some true)
  (l_Row_goal : K.lookup f_Row_goal = some ⟨oc_Row_goal, od_Row_goal, .func (PySem.W.fnOf "goal" "Row.goal" (defArgs s_Row_goal) (defBody s_Row_goal) (defScope s_Row_goal) .none kV_Row_goal dc_Row_goal pm_Row_goal an_Row_goal cd_Row_goal ct_Row_goal), sl_Row_goal⟩)
  (c_Row_goal : PySem.W.codeIn K cd_Row_goal "Row.goal" = true)
  (k_Row_goal : PySem.W.keepIn K (.ref f_Row_goal) = true)
  (pa_Row_steps : PySem.W.findIn K (.ref C_Row) "steps" = some (some (.ref p_Row_steps)))
  (pr_Row_steps : PySem.W.recIn K p_Row_steps "property" = some (.ref f_Row_steps :: pr_Row_steps))
  (pt_Row_steps : PySem.W.specialIn K (.ref p_Row_steps) "__get__" = some (some (.builtin "property.__get__")))
  (pk_Row_steps : PySem.W.takesIn K (.ref p_Row_steps) = some true)
  (l_Row_steps : K.lookup f_Row_steps = some ⟨oc_Row_steps, od_Row_steps, .func (PySem.W.fnOf "steps" "Row.steps" (defArgs s_Row_steps) (defBody s_Row_steps) (defScope s_Row_steps) .none kV_Row_steps dc_Row_steps pm_Row_steps an_Row_steps cd_Row_steps ct_Row_steps), sl_Row_steps⟩)
  (c_Row_steps : PySem.W.codeIn K cd_Row_steps "Row.steps" = true)
  (k_Row_steps : PySem.W.keepIn K (.ref f_Row_steps) = true)
  (me_Row_back : PySem.W.findIn K (.ref C_Row) "back" = some (some (.ref f_Row_back)))
  (l_Row_back : K.lookup f_Row_back = some ⟨oc_Row_back, od_Row_back, .func (PySem.W.fnOf "back" "Row.back" (defArgs s_Row_back) (defBody s_Row_back) (defScope s_Row_back) .none kV_Row_back dc_Row_back pm_Row_back an_Row_back cd_Row_back ct_Row_back), sl_Row_back⟩)
  (c_Row_back : PySem.W.codeIn K cd_Row_back "Row.back" = true)
  (k_Row_back : PySem.W.keepIn K (.ref f_Row_back) = true)
  (fn_Row_back : PySem.W.isFn K (.ref f_Row_back) = true)
  (me_Roww_addw : PySem.W.findIn K (.ref C_Row) "__add__" = some (some (.ref f_Roww_addw)))
  (l_Roww_addw : K.lookup f_Roww_addw = some ⟨oc_Roww_addw, od_Roww_addw, .func (PySem.W.fnOf "__add__" "Row.__add__" (defArgs s_Roww_addw) (defBody s_Roww_addw) (defScope s_Roww_addw) .none kV_Roww_addw dc_Roww_addw pm_Roww_addw an_Roww_addw cd_Roww_addw ct_Roww_addw), sl_Roww_addw⟩)
  (c_Roww_addw : PySem.W.codeIn K cd_Roww_addw "Row.__add__" = true)
  (k_Roww_addw : PySem.W.keepIn K (.ref f_Roww_addw) = true)
  (fn_Roww_addw : PySem.W.isFn K (.ref f_Roww_addw) = true)
  (sf_Row : PySem.W.selfFirst K C_Row = true)
  (me_Roww_iterw : PySem.W.findIn K (.ref C_Row) "__iter__" = some (some (.ref f_Roww_iterw)))
  (l_Roww_iterw : K.lookup f_Roww_iterw = some ⟨oc_Roww_iterw, od_Roww_iterw, .func (PySem.W.fnOf "__iter__" "Row.__iter__" (defArgs s_Roww_iterw) (defBody s_Roww_iterw) (defScope s_Roww_iterw) .none kV_Roww_iterw dc_Roww_iterw pm_Roww_iterw an_Roww_iterw cd_Roww_iterw ct_Roww_iterw), sl_Roww_iterw⟩)
  (c_Roww_iterw : PySem.W.codeIn K cd_Roww_iterw "Row.__iter__" = true)
  (k_Roww_iterw : PySem.W.keepIn K (.ref f_Roww_iterw) = true)
  (fn_Roww_iterw : PySem.W.isFn K (.ref f_Roww_iterw) = true)
  (m__law_cell : PySem.W.nsIn K mainGlobals "_law_cell" = some (some (.ref f_law_cell)))
  (l_law_cell : K.lookup f_law_cell = some ⟨oc_law_cell, od_law_cell, .func (PySem.W.fnOf "_law_cell" "_law_cell" (defArgs s_law_cell) (defBody s_law_cell) (defScope s_law_cell) .none kV_law_cell dc_law_cell pm_law_cell an_law_cell cd_law_cell ct_law_cell), sl_law_cell⟩)
  (c_law_cell : PySem.W.codeIn K cd_law_cell "_law_cell" = true)
  (k_law_cell : PySem.W.keepIn K (.ref f_law_cell) = true)
  (m__law_draw : PySem.W.nsIn K mainGlobals "_law_draw" = some (some (.ref f_law_draw)))
  (l_law_draw : K.lookup f_law_draw = some ⟨oc_law_draw, od_law_draw, .func (PySem.W.fnOf "_law_draw" "_law_draw" (defArgs s_law_draw) (defBody s_law_draw) (defScope s_law_draw) .none kV_law_draw dc_law_draw pm_law_draw an_law_draw cd_law_draw ct_law_draw), sl_law_draw⟩)
  (c_law_draw : PySem.W.codeIn K cd_law_draw "_law_draw" = true)
  (k_law_draw : PySem.W.keepIn K (.ref f_law_draw) = true)
  (m__law_settings : PySem.W.nsIn K mainGlobals "_law_settings" = some (some (.ref f_law_settings)))
  (l_law_settings : K.lookup f_law_settings = some ⟨oc_law_settings, od_law_settings, .func (PySem.W.fnOf "_law_settings" "_law_settings" (defArgs s_law_settings) (defBody s_law_settings) (defScope s_law_settings) .none kV_law_settings dc_law_settings pm_law_settings an_law_settings cd_law_settings ct_law_settings), sl_law_settings⟩)
  (c_law_settings : PySem.W.codeIn K cd_law_settings "_law_settings" = true)
  (k_law_settings : PySem.W.keepIn K (.ref f_law_settings) = true)
  (m__law_equal : PySem.W.nsIn K mainGlobals "_law_equal" = some (some (.ref f_law_equal)))
  (l_law_equal : K.lookup f_law_equal = some ⟨oc_law_equal, od_law_equal, .func (PySem.W.fnOf "_law_equal" "_law_equal" (defArgs s_law_equal) (defBody s_law_equal) (defScope s_law_equal) .none kV_law_equal dc_law_equal pm_law_equal an_law_equal cd_law_equal ct_law_equal), sl_law_equal⟩)
  (c_law_equal : PySem.W.codeIn K cd_law_equal "_law_equal" = true)
  (k_law_equal : PySem.W.keepIn K (.ref f_law_equal) = true)
  (m__law_stands : PySem.W.nsIn K mainGlobals "_law_stands" = some (some (.ref f_law_stands)))
  (l_law_stands : K.lookup f_law_stands = some ⟨oc_law_stands, od_law_stands, .func (PySem.W.fnOf "_law_stands" "_law_stands" (defArgs s_law_stands) (defBody s_law_stands) (defScope s_law_stands) .none kV_law_stands dc_law_stands pm_law_stands an_law_stands cd_law_stands ct_law_stands), sl_law_stands⟩)
  (c_law_stands : PySem.W.codeIn K cd_law_stands "_law_stands" = true)
  (k_law_stands : PySem.W.keepIn K (.ref f_law_stands) = true)
  (m__law_refused : PySem.W.nsIn K mainGlobals "_law_refused" = some (some (.ref f_law_refused)))
  (l_law_refused : K.lookup f_law_refused = some ⟨oc_law_refused, od_law_refused, .func (PySem.W.fnOf "_law_refused" "_law_refused" (defArgs s_law_refused) (defBody s_law_refused) (defScope s_law_refused) .none kV_law_refused dc_law_refused pm_law_refused an_law_refused cd_law_refused ct_law_refused), sl_law_refused⟩)
  (c_law_refused : PySem.W.codeIn K cd_law_refused "_law_refused" = true)
  (k_law_refused : PySem.W.keepIn K (.ref f_law_refused) = true)
  (m__law_sum_stands : PySem.W.nsIn K mainGlobals "_law_sum_stands" = some (some (.ref f_law_sum_stands)))
  (l_law_sum_stands : K.lookup f_law_sum_stands = some ⟨oc_law_sum_stands, od_law_sum_stands, .func (PySem.W.fnOf "_law_sum_stands" "_law_sum_stands" (defArgs s_law_sum_stands) (defBody s_law_sum_stands) (defScope s_law_sum_stands) .none kV_law_sum_stands dc_law_sum_stands pm_law_sum_stands an_law_sum_stands cd_law_sum_stands ct_law_sum_stands), sl_law_sum_stands⟩)
  (c_law_sum_stands : PySem.W.codeIn K cd_law_sum_stands "_law_sum_stands" = true)
  (k_law_sum_stands : PySem.W.keepIn K (.ref f_law_sum_stands) = true)
  (m_law : PySem.W.nsIn K mainGlobals "law" = some (some (.ref f_law)))
  (l_law : K.lookup f_law = some ⟨oc_law, od_law, .func (PySem.W.fnOf "law" "law" (defArgs s_law) (defBody s_law) (defScope s_law) .none kV_law dc_law pm_law an_law cd_law ct_law), sl_law⟩)
  (c_law : PySem.W.codeIn K cd_law "law" = true)
  (k_law : PySem.W.keepIn K (.ref f_law) = true)
  (hcn : PySem.W.specialIn K (.builtin "object.__class__") "__get__" = some (some (.builtin "getset_descriptor.__get__")))
  (hct : PySem.W.takesIn K (.builtin "object.__class__") = some true)
  (hop : PySem.W.nsIn K PySem.cStatics "thirdparty.any" = some none)
  (htop : (P.main.scope.names.lookup ("super" : Str)).isSome = false)
  (kit_Row_Row : PySem.W.kitOne K (.ref C_Row) (.ref C_Row) = some true)
  (kit_NotARow_StepError : PySem.W.kitOne K (.ref C_NotARow) (.ref C_StepError) = some true)
  (kit_NotARow_ValueError : PySem.W.kitOne K (.ref C_NotARow) (.type "ValueError") = some true)
  (kit_NotARow_RowsApart : PySem.W.kitOne K (.ref C_NotARow) (.ref C_RowsApart) = some false)
  (kit_RowsApart_StepError : PySem.W.kitOne K (.ref C_RowsApart) (.ref C_StepError) = some true)
  (kit_RowsApart_NotARow : PySem.W.kitOne K (.ref C_RowsApart) (.ref C_NotARow) = some false)
  (exm_NotARow_NotARow : PySem.W.exmOne K (.ref C_NotARow) (.ref C_NotARow) = some true)
  (exm_RowsApart_RowsApart : PySem.W.exmOne K (.ref C_RowsApart) (.ref C_RowsApart) = some true)
  (exm_NotARow_RowsApart : PySem.W.exmOne K (.ref C_NotARow) (.ref C_RowsApart) = some false) :
  Txt P K mg ⟨C_StepError, C_NotARow, f_NotARoww_initw, (PySem.W.ksFn "__init__" "NotARow.__init__" (defArgs s_NotARoww_initw) (defBody s_NotARoww_initw) (defScope s_NotARoww_initw) .none .none dc_NotARoww_initw pm_NotARoww_initw an_NotARoww_initw (.ref k_NotARoww_initw) ct_NotARoww_initw c_NotARoww_initw), k_NotARoww_initw, c_NotARoww_initw, C_RowsApart, f_RowsApartw_initw, (PySem.W.ksFn "__init__" "RowsApart.__init__" (defArgs s_RowsApartw_initw) (defBody s_RowsApartw_initw) (defScope s_RowsApartw_initw) .none .none dc_RowsApartw_initw pm_RowsApartw_initw an_RowsApartw_initw (.ref k_RowsApartw_initw) ct_RowsApartw_initw c_RowsApartw_initw), k_RowsApartw_initw, c_RowsApartw_initw, C_Row, f_Roww_initw, (PySem.W.fnOf "__init__" "Row.__init__" (defArgs s_Roww_initw) (defBody s_Roww_initw) (defScope s_Roww_initw) .none kV_Roww_initw dc_Roww_initw pm_Roww_initw an_Roww_initw cd_Roww_initw ct_Roww_initw), f_Row_start, (PySem.W.fnOf "start" "Row.start" (defArgs s_Row_start) (defBody s_Row_start) (defScope s_Row_start) .none kV_Row_start dc_Row_start pm_Row_start an_Row_start cd_Row_start ct_Row_start), p_Row_start, f_Row_goal, (PySem.W.fnOf "goal" "Row.goal" (defArgs s_Row_goal) (defBody s_Row_goal) (defScope s_Row_goal) .none kV_Row_goal dc_Row_goal pm_Row_goal an_Row_goal cd_Row_goal ct_Row_goal), p_Row_goal, f_Row_steps, (PySem.W.fnOf "steps" "Row.steps" (defArgs s_Row_steps) (defBody s_Row_steps) (defScope s_Row_steps) .none kV_Row_steps dc_Row_steps pm_Row_steps an_Row_steps cd_Row_steps ct_Row_steps), p_Row_steps, f_Row_back, (PySem.W.fnOf "back" "Row.back" (defArgs s_Row_back) (defBody s_Row_back) (defScope s_Row_back) .none kV_Row_back dc_Row_back pm_Row_back an_Row_back cd_Row_back ct_Row_back), f_Roww_addw, (PySem.W.fnOf "__add__" "Row.__add__" (defArgs s_Roww_addw) (defBody s_Roww_addw) (defScope s_Roww_addw) .none kV_Roww_addw dc_Roww_addw pm_Roww_addw an_Roww_addw cd_Roww_addw ct_Roww_addw), f_Roww_iterw, (PySem.W.fnOf "__iter__" "Row.__iter__" (defArgs s_Roww_iterw) (defBody s_Roww_iterw) (defScope s_Roww_iterw) .none kV_Roww_iterw dc_Roww_iterw pm_Roww_iterw an_Roww_iterw cd_Roww_iterw ct_Roww_iterw), f_law_cell, (PySem.W.fnOf "_law_cell" "_law_cell" (defArgs s_law_cell) (defBody s_law_cell) (defScope s_law_cell) .none kV_law_cell dc_law_cell pm_law_cell an_law_cell cd_law_cell ct_law_cell), f_law_draw, (PySem.W.fnOf "_law_draw" "_law_draw" (defArgs s_law_draw) (defBody s_law_draw) (defScope s_law_draw) .none kV_law_draw dc_law_draw pm_law_draw an_law_draw cd_law_draw ct_law_draw), f_law_settings, (PySem.W.fnOf "_law_settings" "_law_settings" (defArgs s_law_settings) (defBody s_law_settings) (defScope s_law_settings) .none kV_law_settings dc_law_settings pm_law_settings an_law_settings cd_law_settings ct_law_settings), f_law_equal, (PySem.W.fnOf "_law_equal" "_law_equal" (defArgs s_law_equal) (defBody s_law_equal) (defScope s_law_equal) .none kV_law_equal dc_law_equal pm_law_equal an_law_equal cd_law_equal ct_law_equal), f_law_stands, (PySem.W.fnOf "_law_stands" "_law_stands" (defArgs s_law_stands) (defBody s_law_stands) (defScope s_law_stands) .none kV_law_stands dc_law_stands pm_law_stands an_law_stands cd_law_stands ct_law_stands), f_law_refused, (PySem.W.fnOf "_law_refused" "_law_refused" (defArgs s_law_refused) (defBody s_law_refused) (defScope s_law_refused) .none kV_law_refused dc_law_refused pm_law_refused an_law_refused cd_law_refused ct_law_refused), f_law_sum_stands, (PySem.W.fnOf "_law_sum_stands" "_law_sum_stands" (defArgs s_law_sum_stands) (defBody s_law_sum_stands) (defScope s_law_sum_stands) .none kV_law_sum_stands dc_law_sum_stands pm_law_sum_stands an_law_sum_stands cd_law_sum_stands ct_law_sum_stands), f_law, (PySem.W.fnOf "law" "law" (defArgs s_law) (defBody s_law) (defScope s_law) .none kV_law dc_law pm_law an_law cd_law ct_law)⟩ := {
    z_ValueError := PySem.W.mg_none_of X G z_ValueError,
    z_bool := PySem.W.mg_none_of X G z_bool,
    z_enumerate := PySem.W.mg_none_of X G z_enumerate,
    z_int := PySem.W.mg_none_of X G z_int,
    z_isinstance := PySem.W.mg_none_of X G z_isinstance,
    z_iter := PySem.W.mg_none_of X G z_iter,
    z_len := PySem.W.mg_none_of X G z_len,
    z_list := PySem.W.mg_none_of X G z_list,
    z_range := PySem.W.mg_none_of X G z_range,
    z_super := PySem.W.mg_none_of X G z_super,
    z_tuple := PySem.W.mg_none_of X G z_tuple,
    m_StepError := PySem.W.mg_of X G m_StepError,
    xc_StepError := ⟨hg_StepError, hk_StepError, hs_StepError, hd_StepError, ha_StepError, hcn, hct, hm_StepError⟩,
    xf_StepError := ⟨hg_StepError, hk_StepError, hs_StepError, hd_StepError⟩,
    m_NotARow := PySem.W.mg_of X G m_NotARow,
    xc_NotARow := ⟨hg_NotARow, hk_NotARow, hs_NotARow, hd_NotARow, ha_NotARow, hcn, hct, hm_NotARow⟩,
    xf_NotARow := ⟨hg_NotARow, hk_NotARow, hs_NotARow, hd_NotARow⟩,
    F_NotARoww_initw := ⟨⟨_, _, _, _, _, _, _, _, rfl, l_NotARoww_initw, cd_NotARoww_initw⟩, ⟨_, _, _, _, _, _, kc_NotARoww_initw, kv_NotARoww_initw, kf_NotARoww_initw⟩, ⟨_, _, _, cc_NotARoww_initw⟩, ic_NotARoww_initw, PySem.W.mg_none_of X G z_super, htop, ⟨_, rfl, rfl⟩, kp_NotARoww_initw⟩,
    S_NotARoww_initw := ⟨⟨⟨_, _, _, _, _, _, _, _, _, _, _, _, _, _, _, x_NotARoww_initw, rv_NotARoww_initw⟩, sa_NotARoww_initw, hs_NotARow, ty_NotARoww_initw, ke_NotARoww_initw⟩, su_NotARoww_initw, ve_NotARoww_initw, mr_NotARoww_initw, hop⟩,
    b_NotARoww_initw := Binds.all fun us hl => match us, hl with | [_, _], _ => rfl,
    i_NotARoww_initw := i_NotARoww_initw,
    ti_NotARoww_initw := ti_NotARoww_initw,
    nf_NotARow_index := nf_NotARow_index,
    m_RowsApart := PySem.W.mg_of X G m_RowsApart,
    xc_RowsApart := ⟨hg_RowsApart, hk_RowsApart, hs_RowsApart, hd_RowsApart, ha_RowsApart, hcn, hct, hm_RowsApart⟩,
    xf_RowsApart := ⟨hg_RowsApart, hk_RowsApart, hs_RowsApart, hd_RowsApart⟩,
    F_RowsApartw_initw := ⟨⟨_, _, _, _, _, _, _, _, rfl, l_RowsApartw_initw, cd_RowsApartw_initw⟩, ⟨_, _, _, _, _, _, kc_RowsApartw_initw, kv_RowsApartw_initw, kf_RowsApartw_initw⟩, ⟨_, _, _, cc_RowsApartw_initw⟩, ic_RowsApartw_initw, PySem.W.mg_none_of X G z_super, htop, ⟨_, rfl, rfl⟩, kp_RowsApartw_initw⟩,
    S_RowsApartw_initw := ⟨⟨⟨_, _, _, _, _, _, _, _, _, _, _, _, _, _, _, x_RowsApartw_initw, rv_RowsApartw_initw⟩, sa_RowsApartw_initw, hs_RowsApart, ty_RowsApartw_initw, ke_RowsApartw_initw⟩, su_RowsApartw_initw, ve_RowsApartw_initw, mr_RowsApartw_initw, hop⟩,
    b_RowsApartw_initw := Binds.all fun us hl => match us, hl with | [_, _, _], _ => rfl,
    i_RowsApartw_initw := i_RowsApartw_initw,
    ti_RowsApartw_initw := ti_RowsApartw_initw,
    nf_RowsApart_first := nf_RowsApart_first,
    nf_RowsApart_second := nf_RowsApart_second,
    m_Row := PySem.W.mg_of X G m_Row,
    cl_Row := ⟨pg_Row, hd_Row, po_Row, sa_Row⟩,
    ty_Row := fun H x dx fs e => .base (.ins e ⟨pg_Row, hd_Row, po_Row, sa_Row⟩ ha_Row hcn hct hm_Row),
    na_Row_settings := na_Row_settings,
    F_Roww_initw := fun_mk (st := s_Roww_initw) l_Roww_initw c_Roww_initw k_Roww_initw,
    b_Roww_initw := (fun_mk (st := s_Roww_initw) l_Roww_initw c_Roww_initw k_Roww_initw).binds (ps := ["self", "settings"]) fun _ _ _ _ _ _ us hl => match us, hl with | [_, _], _ => rfl,
    mk_Row := ⟨mk_Row, me_Roww_initw, fn_Roww_initw, kc_Row⟩,
    p_Row_start := ⟨pa_Row_start, pt_Row_start, pk_Row_start, ⟨_, pr_Row_start⟩⟩,
    F_Row_start := fun_mk (st := s_Row_start) l_Row_start c_Row_start k_Row_start,
    b_Row_start := (fun_mk (st := s_Row_start) l_Row_start c_Row_start k_Row_start).binds (ps := ["self"]) fun _ _ _ _ _ _ us hl => match us, hl with | [_], _ => rfl,
    p_Row_goal := ⟨pa_Row_goal, pt_Row_goal, pk_Row_goal, ⟨_, pr_Row_goal⟩⟩,
    F_Row_goal := fun_mk (st := s_Row_goal) l_Row_goal c_Row_goal k_Row_goal,
    b_Row_goal := (fun_mk (st := s_Row_goal) l_Row_goal c_Row_goal k_Row_goal).binds (ps := ["self"]) fun _ _ _ _ _ _ us hl => match us, hl with | [_], _ => rfl,
    p_Row_steps := ⟨pa_Row_steps, pt_Row_steps, pk_Row_steps, ⟨_, pr_Row_steps⟩⟩,
    F_Row_steps := fun_mk (st := s_Row_steps) l_Row_steps c_Row_steps k_Row_steps,
    b_Row_steps := (fun_mk (st := s_Row_steps) l_Row_steps c_Row_steps k_Row_steps).binds (ps := ["self"]) fun _ _ _ _ _ _ us hl => match us, hl with | [_], _ => rfl,
    F_Row_back := fun_mk (st := s_Row_back) l_Row_back c_Row_back k_Row_back,
    b_Row_back := (fun_mk (st := s_Row_back) l_Row_back c_Row_back k_Row_back).binds (ps := ["self"]) fun _ _ _ _ _ _ us hl => match us, hl with | [_], _ => rfl,
    me_Row_back := ⟨me_Row_back, fn_Row_back, k_Row_back⟩,
    F_Roww_addw := fun_mk (st := s_Roww_addw) l_Roww_addw c_Roww_addw k_Roww_addw,
    b_Roww_addw := (fun_mk (st := s_Roww_addw) l_Roww_addw c_Roww_addw k_Roww_addw).binds (ps := ["self", "other"]) fun _ _ _ _ _ _ us hl => match us, hl with | [_, _], _ => rfl,
    op_Roww_addw := ⟨sf_Row, me_Roww_addw, fn_Roww_addw⟩,
    F_Roww_iterw := fun_mk (st := s_Roww_iterw) l_Roww_iterw c_Roww_iterw k_Roww_iterw,
    b_Roww_iterw := (fun_mk (st := s_Roww_iterw) l_Roww_iterw c_Roww_iterw k_Roww_iterw).binds (ps := ["self"]) fun _ _ _ _ _ _ us hl => match us, hl with | [_], _ => rfl,
    oi_Row := ⟨me_Roww_iterw, fn_Roww_iterw⟩,
    m__law_cell := PySem.W.mg_of X G m__law_cell,
    F_law_cell := fun_mk (st := s_law_cell) l_law_cell c_law_cell k_law_cell,
    b_law_cell := (fun_mk (st := s_law_cell) l_law_cell c_law_cell k_law_cell).binds (ps := ["script", "k"]) fun _ _ _ _ _ _ us hl => match us, hl with | [_, _], _ => rfl,
    m__law_draw := PySem.W.mg_of X G m__law_draw,
    F_law_draw := fun_mk (st := s_law_draw) l_law_draw c_law_draw k_law_draw,
    b_law_draw := (fun_mk (st := s_law_draw) l_law_draw c_law_draw k_law_draw).binds (ps := ["cell", "bases"]) fun _ _ _ _ _ _ us hl => match us, hl with | [_, _], _ => rfl,
    m__law_settings := PySem.W.mg_of X G m__law_settings,
    F_law_settings := fun_mk (st := s_law_settings) l_law_settings c_law_settings k_law_settings,
    b_law_settings := (fun_mk (st := s_law_settings) l_law_settings c_law_settings k_law_settings).binds (ps := ["cell", "count", "size"]) fun _ _ _ _ _ _ us hl => match us, hl with | [_, _, _], _ => rfl,
    m__law_equal := PySem.W.mg_of X G m__law_equal,
    F_law_equal := fun_mk (st := s_law_equal) l_law_equal c_law_equal k_law_equal,
    b_law_equal := (fun_mk (st := s_law_equal) l_law_equal c_law_equal k_law_equal).binds (ps := ["actual", "expected"]) fun _ _ _ _ _ _ us hl => match us, hl with | [_, _], _ => rfl,
    m__law_stands := PySem.W.mg_of X G m__law_stands,
    F_law_stands := fun_mk (st := s_law_stands) l_law_stands c_law_stands k_law_stands,
    b_law_stands := (fun_mk (st := s_law_stands) l_law_stands c_law_stands k_law_stands).binds (ps := ["row", "settings"]) fun _ _ _ _ _ _ us hl => match us, hl with | [_, _], _ => rfl,
    m__law_refused := PySem.W.mg_of X G m__law_refused,
    F_law_refused := fun_mk (st := s_law_refused) l_law_refused c_law_refused k_law_refused,
    b_law_refused := (fun_mk (st := s_law_refused) l_law_refused c_law_refused k_law_refused).binds (ps := ["settings", "index"]) fun _ _ _ _ _ _ us hl => match us, hl with | [_, _], _ => rfl,
    m__law_sum_stands := PySem.W.mg_of X G m__law_sum_stands,
    F_law_sum_stands := fun_mk (st := s_law_sum_stands) l_law_sum_stands c_law_sum_stands k_law_sum_stands,
    b_law_sum_stands := (fun_mk (st := s_law_sum_stands) l_law_sum_stands c_law_sum_stands k_law_sum_stands).binds (ps := ["first", "second", "settings", "others"]) fun _ _ _ _ _ _ us hl => match us, hl with | [_, _, _, _], _ => rfl,
    m_law := PySem.W.mg_of X G m_law,
    F_law := fun_mk (st := s_law) l_law c_law k_law,
    b_law := (fun_mk (st := s_law) l_law c_law k_law).binds (ps := ["script"]) fun _ _ _ _ _ _ us hl => match us, hl with | [_], _ => rfl,
    kit_Row_Row := kit_Row_Row,
    kit_NotARow_StepError := kit_NotARow_StepError,
    kit_NotARow_ValueError := kit_NotARow_ValueError,
    kit_NotARow_RowsApart := kit_NotARow_RowsApart,
    kit_RowsApart_StepError := kit_RowsApart_StepError,
    kit_RowsApart_NotARow := kit_RowsApart_NotARow,
    exm_NotARow_NotARow := exm_NotARow_NotARow,
    exm_RowsApart_RowsApart := exm_RowsApart_RowsApart,
    exm_NotARow_RowsApart := exm_NotARow_RowsApart }
set_option Elab.async false
set_option linter.all false
set_option maxRecDepth 100000
set_option maxHeartbeats 4000000
set_option autoImplicit false
namespace Z
open PySem L2
theorem len1 {K : PySem.W.Frag} {α ε : Type} [Dat α] [Dat ε] {pre : α → Prop} {m : α → ε} {s1 : Str} : ∀ vs H Q E, sp1 K pre m vs H Q E → vs.length = [s1].length := fun vs H Q E h => by
  obtain ⟨v, x, rfl, _⟩ := h
  rfl
theorem len2 {K : PySem.W.Frag} {α β ε : Type} [Dat α] [Dat β] [Dat ε] {pre : α → β → Prop} {m : α → β → ε} {s1 s2 : Str} : ∀ vs H Q E, sp2 K pre m vs H Q E → vs.length = [s1, s2].length := fun vs H Q E h => by
  obtain ⟨v, u, x, y, rfl, _⟩ := h
  rfl
theorem len3 {K : PySem.W.Frag} {α β γ ε : Type} [Dat α] [Dat β] [Dat γ] [Dat ε] {pre : α → β → γ → Prop} {m : α → β → γ → ε} {s1 s2 s3 : Str} : ∀ vs H Q E, sp3 K pre m vs H Q E → vs.length = [s1, s2, s3].length := fun vs H Q E h => by
  obtain ⟨v, u, t, x, y, z, rfl, _⟩ := h
  rfl
theorem lel1 {K : PySem.W.Frag} {α ε : Type} [Dat α] [Dat ε] {pre : α → Prop} {m : α → List ε} {s1 : Str} : ∀ vs H Q E, sl1 K pre m vs H Q E → vs.length = [s1].length := fun vs H Q E h => by
  obtain ⟨v, x, rfl, _⟩ := h
  rfl
theorem lel2 {K : PySem.W.Frag} {α β ε : Type} [Dat α] [Dat β] [Dat ε] {pre : α → β → Prop} {m : α → β → List ε} {s1 s2 : Str} : ∀ vs H Q E, sl2 K pre m vs H Q E → vs.length = [s1, s2].length := fun vs H Q E h => by
  obtain ⟨v, u, x, y, rfl, _⟩ := h
  rfl
theorem lel3 {K : PySem.W.Frag} {α β γ ε : Type} [Dat α] [Dat β] [Dat γ] [Dat ε] {pre : α → β → γ → Prop} {m : α → β → γ → List ε} {s1 s2 s3 : Str} : ∀ vs H Q E, sl3 K pre m vs H Q E → vs.length = [s1, s2, s3].length := fun vs H Q E h => by
  obtain ⟨v, u, t, x, y, z, rfl, _⟩ := h
  rfl
end Z
open PySem L2 Z
open Evl (Ex)
/-! ### the mirror -/
def cell (ns : List Int) (k : Int) : Int := if k < ns.length then ns.getD k.toNat 0 else 0
def big : Int → List Int → List Int
  | _, [] => []
  | r, b :: bs => r % b :: big (r / b) bs
def small : Int → List Int → List Int
  | _, [] => []
  | s, b :: bs => ((s * 48271 + 12345) % 2147483647) / 64 % b :: small ((s * 48271 + 12345) % 2147483647) bs
def draw (c : Int) (bs : List Int) : List Int := if 10 ^ 18 ≤ c then big (c - 10 ^ 18) bs else small (c % 2147483647) bs
def bigR (r : Int) (bs : List Int) : Int := bs.foldl (fun r b => r / b) r
def smallR (s : Int) (bs : List Int) : Int := bs.foldl (fun s _ => (s * 48271 + 12345) % 2147483647) s
theorem big_snoc (r b : Int) (bs : List Int) : big r (bs ++ [b]) = big r bs ++ [bigR r bs % b] := by
  induction bs generalizing r with
  | nil => rfl
  | cons c bs ih => simp [big, ih, bigR]
theorem small_snoc (s b : Int) (bs : List Int) : small s (bs ++ [b]) = small s bs ++ [((smallR s bs * 48271 + 12345) % 2147483647) / 64 % b] := by
  induction bs generalizing s with
  | nil => rfl
  | cons c bs ih => simp [small, ih, smallR]
theorem small_len (s : Int) (bs : List Int) : (small s bs).length = bs.length := by
  induction bs generalizing s with
  | nil => rfl
  | cons c bs ih => simp [small, ih]
theorem big_len (s : Int) (bs : List Int) : (big s bs).length = bs.length := by
  induction bs generalizing s with
  | nil => rfl
  | cons c bs ih => simp [big, ih]
theorem take_succ_get {α : Type} {xs : List α} {i : Nat} {x : α} (h : xs[i]? = some x) : xs.take (i + 1) = xs.take i ++ [x] := by rw [List.take_succ, h]; rfl
theorem smallR_lt {s : Int} (h0 : 0 ≤ s) (h1 : s < 2147483647) (bs : List Int) : 0 ≤ smallR s bs ∧ smallR s bs < 2147483647 := by
  unfold smallR
  induction bs generalizing s with
  | nil => exact ⟨h0, h1⟩
  | cons b bs ih => exact ih (Int.emod_nonneg _ (by decide)) (Int.emod_lt_of_pos _ (by decide))
local macro_rules | `(tactic| walk_at "ex") => `(tactic| first | assumption | exact Evl.Ex.refl _ | (refine Evl.Ex.trans (by assumption) ?_; walk_at "ex"))
local macro_rules | `(tactic| walk_at "side") => `(tactic| first | assumption | ((apply Z.atI_mapE); assumption; rfl) | omega | decide | (exact Or.inl ⟨by omega, by omega⟩) | (exact Or.inr ⟨by omega, by omega⟩) | (with_reducible rfl) | (refine ⟨?_, ?_⟩ <;> walk_at "side") | rfl)
local macro_rules | `(tactic| walk_at "sub") => `(tactic| first | walk_at "ev" | walk_at "side")
local macro_rules | `(tactic| walk_at "ev") => `(tactic| first
  | assumption
  | exact Z.er_int | exact Z.er_bl | exact Z.er_str | exact Z.er_non
  | exact Z.er_vint rfl | exact Z.er_vbl rfl | exact Z.er_vstr rfl
  | ((with_reducible apply Z.ed_var); (exact rfl); assumption; (walk_at "ex"))
  | exact Z.ed_own rfl (by assumption) (by walk_at "ex")
  | ((with_reducible apply Z.er_add) <;> walk_at "sub") | ((with_reducible apply Z.er_sub) <;> walk_at "sub") | ((with_reducible apply Z.er_mul) <;> walk_at "sub")
  | ((with_reducible apply Z.er_fdiv) <;> walk_at "sub") | ((with_reducible apply Z.er_mod) <;> walk_at "sub") | ((with_reducible apply Z.er_pow) <;> walk_at "sub")
  | ((with_reducible apply Z.er_neg) <;> walk_at "sub")
  | ((with_reducible apply Z.er_lt) <;> walk_at "sub") | ((with_reducible apply Z.er_le) <;> walk_at "sub") | ((with_reducible apply Z.er_gt) <;> walk_at "sub") | ((with_reducible apply Z.er_ge) <;> walk_at "sub")
  | ((with_reducible apply Z.er_eqI) <;> walk_at "ev") | ((with_reducible apply Z.er_neI) <;> walk_at "ev")
  | ((with_reducible apply Z.et_test) <;> walk_at "sub") | ((with_reducible apply Z.et_B) <;> walk_at "sub") | ((with_reducible apply Z.et_not) <;> walk_at "sub")
  | ((apply Z.ed_lenL) <;> walk_at "sub") | ((apply Z.ed_lenT) <;> walk_at "sub")
  | ((with_reducible apply Z.er_int1) <;> walk_at "sub")
  | ((with_reducible apply Z.et_orU) <;> walk_at "sub") | ((with_reducible apply Z.et_andU) <;> walk_at "sub")
  | ((with_reducible apply Z.er_andU) <;> walk_at "sub") | ((with_reducible apply Z.er_orU) <;> walk_at "sub") | ((with_reducible apply Z.er_notV) <;> walk_at "sub")
  | ((apply Z.er_isi_intb) <;> walk_at "sub") | ((apply Z.er_isi_int) <;> walk_at "sub") | ((apply Z.ed_isi_list) <;> walk_at "sub") | ((apply Z.ed_isi_tup) <;> walk_at "sub")
  | ((apply Z.ed_ixL) <;> walk_at "sub") | ((apply Z.ed_ixT) <;> walk_at "sub")
  | exact Z.ea_nil | ((with_reducible apply Z.ea_cons) <;> walk_at "sub"))
section
variable {P : Program} {w : World} {K : PySem.W.Frag} {mg : Str → Option Value} {base : Heap} {a : Ad}
def spCell (K : PySem.W.Frag) : Sp := sp2 K (fun (_ : List Int) (k : Int) => 0 ≤ k) cell
theorem ok_law_cell (T : Txt P K mg a) : FnOk P w K mg base CX0 1 a.f_law_cell a.d_law_cell ["script", "k"] (spCell K) := by
  refine T.F_law_cell.ok sc_law_cell len2 (fun cdv A outer s H vs Q E hr h => ⟨_, (pss_cons (ps_if (pt_cmpR op_lt (pv 1) (pe_callB (k_call_len_seq (K := K) rfl) (by rfl) T.z_len (by decide +kernel) (pa_cons (pv 0) pa_nil)) (nomark _))
  (pss_one (ps_ret (pe_callTy call_int1 (by rfl) T.z_int (by decide +kernel) (pa_cons (pe_ix (k_ix_list (K := K) rfl) (pv 0) (pv 1) (fun _ _ => rfl)) pa_nil))))
  pss_nil)
  (pss_one (ps_ret pe_int))), ?_⟩)
  obtain ⟨v, u, ns, k, rfl, r1, r2, hk, q⟩ := h
  obtain rfl := r2.int
  refine q_if (K := K) (b := decide (k < ns.length)) (by walk_at "ev") (fun hb H1 e1 => ?_) (fun hb H1 e1 => ?_)
  · have hb := of_decide_eq_true hb
    obtain ⟨x, hx, hg⟩ := atI_nn hk hb
    refine s_ret (K := K) (x := x) ?_ (fun v H2 e2 r => q v H2 (e1.trans e2) ?_)
    · refine er_int1 (er_ixL (xs := ns) ?_ ?_ hx) <;> walk_at "ev"
    · rw [show cell ns k = x by unfold cell; rw [if_pos hb, List.getD_eq_getElem?_getD, hg]; rfl]
      exact r
  · have hb := of_decide_eq_false hb
    refine s_ret (K := K) (x := (0 : Int)) (by walk_at "ev") (fun v H2 e2 r => q v H2 (e1.trans e2) ?_)
    rw [show cell ns k = 0 by unfold cell; rw [if_neg hb]]
    exact r
def spDraw (K : PySem.W.Frag) : Sp := sl2 K (fun (_ : Int) (bs : List Int) => (∀ b, b ∈ bs → 0 < b ∧ b < 1073741824) ∧ bs.length ≤ 50000) draw
theorem ok_law_draw (T : Txt P K mg a) : FnOk P w K mg base CX0 1 a.f_law_draw a.d_law_draw ["cell", "bases"] (spDraw K) := by
  refine T.F_law_draw.ok sc_law_draw lel2 (fun cdv A outer s H vs Q E hr h => ⟨_, (pss_cons (ps_set (i := 2) sc_law_draw.nd rfl (Or.inl rfl) (pe_lst pa_nil))
  (pss_cons (ps_set (i := 3) sc_law_draw.nd rfl (Or.inl rfl) (pe_callTy call_int1 (by rfl) T.z_int (by decide +kernel) (pa_cons (pv 0) pa_nil)))
  (pss_cons (ps_if (pt_cmpR op_ge (pv 3) (pe_op op_pow pe_int pe_int) (nomark _))
  (pss_cons (ps_set (i := 3) sc_law_draw.nd rfl (Or.inl rfl) (pe_op op_sub (pv 3) (pe_op op_pow pe_int pe_int)))
  (pss_cons (ps_for PassesOwn.never rfl (k_pi_list (K := K) rfl (pv 1)) (pg_name (i := 4) sc_law_draw.nd rfl (Or.inl rfl))
  (pss_cons (ps_expr (k_pe_bm (K := K) rfl (pe_bm PySem.F.plainAttrs_list PySem.F.slot_list_append PySem.F.type_list_append mt_append (pv 2) (pa_cons (pe_op op_mod (pv 3) (pv 4)) pa_nil))))
  (pss_one (ps_set (i := 3) sc_law_draw.nd rfl (Or.inl rfl) (pe_op op_fdiv (pv 3) (pv 4))))))
  (pss_one (ps_ret (pv 2)))))
  pss_nil)
  (pss_cons (ps_set (i := 5) sc_law_draw.nd rfl (Or.inl rfl) (pe_op op_mod (pv 3) pe_int))
  (pss_cons (ps_for PassesOwn.never rfl (k_pi_list (K := K) rfl (pv 1)) (pg_name (i := 4) sc_law_draw.nd rfl (Or.inl rfl))
  (pss_cons (ps_set (i := 5) sc_law_draw.nd rfl (Or.inl rfl) (pe_op op_mod (pe_op op_add (pe_op op_mul (pv 5) pe_int) pe_int) pe_int))
  (pss_one (ps_expr (k_pe_bm (K := K) rfl (pe_bm PySem.F.plainAttrs_list PySem.F.slot_list_append PySem.F.type_list_append mt_append (pv 2) (pa_cons (pe_op op_mod (pe_op op_fdiv (pv 5) pe_int) (pv 4)) pa_nil)))))))
  (pss_one (ps_ret (pv 2)))))))), ?_⟩)
  obtain ⟨v, u, c, bs, rfl, r1, r2, ⟨hb, hl⟩, q⟩ := h
  obtain rfl := r1.int
  refine q_setL (K := K) (α := Int) (xs := []) (el_lst ea_nil) fun p H1 hp e1 o1 => ?_
  refine q_setI (K := K) (x := c) (er_int1 (er_vint rfl)) fun H2 e2 => ?_
  refine q_if (K := K) (b := decide (10 ^ (18 : Int).toNat ≤ c)) (by walk_at "ev") (fun hc H3 e3 => ?_) (fun hc H3 e3 => ?_)
  · have hc := of_decide_eq_true hc
    refine q_setI (K := K) (x := c - 10 ^ (18 : Int).toNat) (by walk_at "ev") fun H4 e4 => ?_
    have e04 : Ex H H4 := e1.trans (e2.trans (e3.trans e4))
    refine s_seq (s_forV (K := K) (xs := bs) rfl r2 e04 (fun i σ' H' => ∃ o, σ' = [some (.int c), some u, some (.ref p), some (.int (bigR (c - 10 ^ 18) (bs.take i))), o, none] ∧ Own K H' p (big (c - 10 ^ 18) (bs.take i)))
      ⟨none, rfl, o1.mono (e2.trans (e3.trans e4))⟩ ?_ ?_)
    · rintro i b w σ' H5 hi e5 rb ⟨o, rfl, o5⟩
      obtain rfl := Rep.int rb
      have hm := hb b (List.mem_of_getElem? hi)
      refine q_app (l := 2) rfl o5 (x := bigR (c - 10 ^ 18) (bs.take i) % b) (by walk_at "ev") (by rw [big_len, List.length_take]; omega) fun H6 k6 _ o6 => ?_
      refine s_setI (K := K) (x := bigR (c - 10 ^ 18) (bs.take i) / b) (by walk_at "ev") fun H7 e7 => ⟨(k6 _ e5 hp).trans e7, some (.int b), ?_, ?_⟩
      · rw [take_succ_get hi]
        simp [bigR]
      · rw [take_succ_get hi, big_snoc]
        exact o6.mono e7
    · rintro σ' H5 e5 ⟨o, rfl, o5⟩
      rw [List.take_length] at o5
      refine ⟨_, rfl, q p H5 hp e5 ?_⟩
      unfold draw
      rw [if_pos (show 10 ^ 18 ≤ c from hc)]
      exact o5
  · have hc := of_decide_eq_false hc
    refine q_setI (K := K) (x := c % 2147483647) (by walk_at "ev") fun H4 e4 => ?_
    have e04 : Ex H H4 := e1.trans (e2.trans (e3.trans e4))
    refine s_seq (s_forV (K := K) (xs := bs) rfl r2 e04 (fun i σ' H' => ∃ o, σ' = [some (.int c), some u, some (.ref p), some (.int c), o, some (.int (smallR (c % 2147483647) (bs.take i)))] ∧ Own K H' p (small (c % 2147483647) (bs.take i)))
      ⟨none, rfl, o1.mono (e2.trans (e3.trans e4))⟩ ?_ ?_)
    · rintro i b w σ' H5 hi e5 rb ⟨o, rfl, o5⟩
      obtain rfl := Rep.int rb
      have hm := hb b (List.mem_of_getElem? hi)
      have hs := smallR_lt (s := c % 2147483647) (Int.emod_nonneg _ (by decide)) (Int.emod_lt_of_pos _ (by decide)) (bs.take i)
      refine q_setI (K := K) (x := (smallR (c % 2147483647) (bs.take i) * 48271 + 12345) % 2147483647) (by walk_at "ev") fun H6 e6 => ?_
      refine s_app (l := 2) rfl (o5.mono e6) (x := (smallR (c % 2147483647) (bs.take i) * 48271 + 12345) % 2147483647 / 64 % b) (by walk_at "ev") (by rw [small_len, List.length_take]; omega) fun H7 k7 _ o7 => ⟨k7 _ (e5.trans e6) hp, some (.int b), ?_, ?_⟩
      · rw [take_succ_get hi]
        simp [smallR]
      · rw [take_succ_get hi, small_snoc]
        exact o7
    · rintro σ' H5 e5 ⟨o, rfl, o5⟩
      rw [List.take_length] at o5
      refine ⟨_, rfl, q p H5 hp e5 ?_⟩
      unfold draw
      rw [if_neg (show ¬ (10 ^ 18 ≤ c) from hc)]
      exact o5
end
set_option Elab.async false
set_option linter.all false
set_option maxRecDepth 100000
set_option maxHeartbeats 4000000
set_option autoImplicit false
open PySem L2 Z
open Evl (Ex)
/-! ### the mirror -/
def vals (c count size : Int) : List Int := (draw c (List.replicate (count * size).toNat 9)).map fun d => d - 2
def settings (c count size : Int) : List (Tp Int) := (List.range count.toNat).map fun (k : Nat) => (show Tp Int from cutD (vals c count size) (some ((k : Int) * size)) (some (((k : Int) + 1) * size)))
theorem draw_len (c : Int) (bs : List Int) : (draw c bs).length = bs.length := by
  unfold draw
  split
  · exact big_len _ _
  · exact small_len _ _
theorem settings_len (c count size : Int) : (settings c count size).length = count.toNat := by
  show List.length (List.map _ (List.range _)) = _
  rw [List.length_map, List.length_range]
section
variable {P : Program} {w : World} {K : PySem.W.Frag} {mg : Str → Option Value} {base : Heap} {a : Ad}
def spSettings (K : PySem.W.Frag) : Sp := sl3 K (fun (_ count size : Int) => (0 ≤ count ∧ count ≤ 100) ∧ 0 ≤ size ∧ size ≤ 100) settings
theorem ok_law_settings (T : Txt P K mg a) : FnOk P w K mg base CX0 2 a.f_law_settings a.d_law_settings ["cell", "count", "size"] (spSettings K) := by
  refine T.F_law_settings.ok sc_law_settings lel3 (fun cdv A outer s H vs Q E hr h => ⟨_, (pss_cons (ps_set (i := 3) sc_law_settings.nd rfl (Or.inr rfl) (pe_lc (own := [("digit", 4)]) rfl sc_law_settings.nd (k_pi_list (K := K) rfl (pe_call (ok_law_draw T) (hr.mono (by decide)) (by rfl) T.m__law_draw T.F_law_draw.kp T.b_law_draw .nil pass0 (pa_cons (pv 0) (pa_cons (pe_op op_rep (pe_lst (pa_cons pe_int pa_nil)) (pe_op op_mul (pv 1) (pv 2))) pa_nil)))) (blkOk_by (own := [("digit", 4)]) (N := N_law_settings) (sc := defScope s_law_settings) (by decide +kernel)) (fun _ _ _ _ _ => (pg_name (i := 4) sc_law_settings.nd rfl (Or.inl rfl))) (fun _ _ _ _ _ => pts_nil) (fun _ _ _ _ _ => (pe_op op_sub (pv 4) pe_int))))
  (pss_one (ps_ret (pe_lc (own := [("k", 5)]) rfl sc_law_settings.nd (pi_range1 (by rfl) T.z_range (pa_cons (pv 1) pa_nil)) (blkOk_by (own := [("k", 5)]) (N := N_law_settings) (sc := defScope s_law_settings) (by decide +kernel)) (fun _ _ _ _ _ => (pg_name (i := 5) sc_law_settings.nd rfl (Or.inl rfl))) (fun _ _ _ _ _ => pts_nil) (fun _ _ _ _ _ => (pe_callTy (k_call_tuple_of (K := K) rfl) (by rfl) T.z_tuple (by decide +kernel) (pa_cons (pe_slice (k_sl_list (K := K) rfl) (pv 3) (po_some (pe_op op_mul (pv 5) (pv 2))) (po_some (pe_op op_mul (pe_op op_add (pv 5) pe_int) (pv 2)))) pa_nil))))))), ?_⟩)
  obtain ⟨_, _, _, c, n, m, rfl, r1, r2, r3, ⟨hn, hm⟩, q⟩ := h
  obtain rfl := Rep.int r1
  obtain rfl := Rep.int r2
  obtain rfl := Rep.int r3
  have h0 : 0 ≤ n * m := Int.mul_nonneg hn.1 hm.1
  have h1 : n * m ≤ 100 * 100 := Int.mul_le_mul hn.2 hm.2 hm.1 (by decide)
  refine q_setL (K := K) (xs := vals c n m) ?_ fun p H1 hp e1 o1 => ?_
  · refine el_map (xs := draw c (List.replicate (n * m).toNat 9)) (EL.er (el_c2 ?_ (EL.er (el_rep1 (x := (9 : Int)) (n := n * m) ?_ ?_ ?_ ?_)) ?_)) (fun x v H' _ e r => ?_) ?_
    · walk_at "ev"
    · exact el_lst (ea_cons er_int ea_nil)
    · walk_at "ev"
    · omega
    · omega
    · refine ⟨fun b hb => ?_, ?_⟩
      · rw [List.eq_of_mem_replicate hb]
        decide
      · rw [List.length_replicate]
        omega
    · obtain rfl := Rep.int r
      walk_at "ev"
    · rw [draw_len, List.length_replicate]
      omega
  · refine s_retL (K := K) (xs := settings c n m) ?_ fun p' H2 hp' e2 o2 => q p' H2 (fresh_back e1 hp') (e1.trans e2) o2
    refine el_rmap (β := Tp Int) (n := n) (by walk_at "ev") hn.1 (by omega) fun k H' hk e => ?_
    have hk1 : (0 : Int) ≤ k := Int.natCast_nonneg k
    refine er_tuple (EL.er (el_sl (xs := vals c n m) (er_own rfl o1 e) (eo_some ?_) (eo_some ?_)))
    · walk_at "ev"
    · walk_at "ev"
end
set_option Elab.async false
set_option linter.all false
set_option maxRecDepth 100000
set_option maxHeartbeats 400000
set_option autoImplicit false
open PySem L2 Z
open Evl (Ex)
section
variable {P : Program} {w : World} {K : PySem.W.Frag} {mg : Str → Option Value} {base : Heap} {a : Ad}
def Small (x : List (Tp Int)) : Prop := x.length ≤ 50000 ∧ ∀ t : Tp Int, t ∈ x → List.length t ≤ 50000
def spEqual (K : PySem.W.Frag) : Sp := sp2 K (fun (x y : List (Tp Int)) => x = y ∧ Small x) fun _ _ => true
theorem ok_law_equal (T : Txt P K mg a) : FnOk P w K mg base CX0 1 a.f_law_equal a.d_law_equal ["actual", "expected"] (spEqual K) := by
  refine T.F_law_equal.ok sc_law_equal len2 (fun cdv A outer s H vs Q E hr h => ⟨_, (pss_cons (ps_if (PW.pt (pw_or (pt_not (pt_val (pe_callB (k_call_isi (K := K) rfl) (by rfl) T.z_isinstance (by decide +kernel) (pa_cons (pv 0) (pa_cons (pe_bltn (v := .ty "list") (by rfl) T.z_list (by decide +kernel) rfl) pa_nil))))) (pw_or1 (pt_cmpR op_ne (pe_callB (k_call_len_seq (K := K) rfl) (by rfl) T.z_len (by decide +kernel) (pa_cons (pv 0) pa_nil)) (pe_callB (k_call_len_seq (K := K) rfl) (by rfl) T.z_len (by decide +kernel) (pa_cons (pv 1) pa_nil)) (nomark _)))))
  (pss_one (ps_ret pe_bl))
  pss_nil)
  (pss_cons (ps_for PassesOwn.never rfl (pi_range1 (by rfl) T.z_range (pa_cons (pe_callB (k_call_len_seq (K := K) rfl) (by rfl) T.z_len (by decide +kernel) (pa_cons (pv 1) pa_nil)) pa_nil)) (pg_name (i := 2) sc_law_equal.nd rfl (Or.inl rfl))
  (pss_cons (ps_if (PW.pt (pw_or (pt_not (pt_val (pe_callB (k_call_isi (K := K) rfl) (by rfl) T.z_isinstance (by decide +kernel) (pa_cons (pe_ix (k_ix_list (K := K) rfl) (pv 0) (pv 2) (fun _ _ => rfl)) (pa_cons (pe_bltn (v := .ty "tuple") (by rfl) T.z_tuple (by decide +kernel) rfl) pa_nil))))) (pw_or1 (pt_cmpR op_ne (pe_callB (k_call_len_seq (K := K) rfl) (by rfl) T.z_len (by decide +kernel) (pa_cons (pe_ix (k_ix_list (K := K) rfl) (pv 0) (pv 2) (fun _ _ => rfl)) pa_nil)) (pe_callB (k_call_len_seq (K := K) rfl) (by rfl) T.z_len (by decide +kernel) (pa_cons (pe_ix (k_ix_list (K := K) rfl) (pv 1) (pv 2) (fun _ _ => rfl)) pa_nil)) (nomark _)))))
  (pss_one (ps_ret pe_bl))
  pss_nil)
  (pss_one (ps_for PassesOwn.never rfl (pi_range1 (by rfl) T.z_range (pa_cons (pe_callB (k_call_len_seq (K := K) rfl) (by rfl) T.z_len (by decide +kernel) (pa_cons (pe_ix (k_ix_list (K := K) rfl) (pv 1) (pv 2) (fun _ _ => rfl)) pa_nil)) pa_nil)) (pg_name (i := 3) sc_law_equal.nd rfl (Or.inl rfl))
  (pss_cons (ps_set (i := 4) sc_law_equal.nd rfl (Or.inl rfl) (pe_ix (k_ix_tup (K := K) rfl) (pe_ix (k_ix_list (K := K) rfl) (pv 0) (pv 2) (fun _ _ => rfl)) (pv 3) (fun _ _ => rfl)))
  (pss_one (ps_if (PW.pt (pw_or (pt_not (pt_val (pe_callB (k_call_isi (K := K) rfl) (by rfl) T.z_isinstance (by decide +kernel) (pa_cons (pv 4) (pa_cons (pe_bltn (v := .ty "int") (by rfl) T.z_int (by decide +kernel) rfl) pa_nil))))) (pw_or (pt_val (pe_callB (k_call_isi (K := K) rfl) (by rfl) T.z_isinstance (by decide +kernel) (pa_cons (pv 4) (pa_cons (pe_bltn (v := .ty "bool") (by rfl) T.z_bool (by decide +kernel) rfl) pa_nil)))) (pw_or1 (pt_cmpR op_ne (pv 4) (pe_ix (k_ix_tup (K := K) rfl) (pe_ix (k_ix_list (K := K) rfl) (pv 1) (pv 2) (fun _ _ => rfl)) (pv 3) (fun _ _ => rfl)) (nomark _))))))
  (pss_one (ps_ret pe_bl))
  pss_nil)))))))
  (pss_one (ps_ret pe_bl)))), ?_⟩)
  obtain ⟨v, u, x, y, rfl, r1, r2, ⟨rfl, hs, ht⟩, q⟩ := h
  refine q_ifF (K := K) (by walk_at "ev") (by simp) fun H1 e1 => ?_
  refine q_rng (K := K) (by walk_at "ev") (by omega) (by omega) fun H2 e2 => ⟨H2, fun i σ' _ => ∃ o1 o2 o3, σ' = [some v, some u, o1, o2, o3], Ex.refl _, ⟨_, _, _, rfl⟩, ?_, ?_⟩
  · rintro i σ' H3 hi e3 ⟨o1, o2, o3, rfl⟩
    obtain ⟨t, hm, hx, hat⟩ := atI_ex (xs := x) (k := i) (by omega)
    have htl := ht t hm
    have e03 : Ex H H3 := e1.trans (e2.trans e3)
    refine q_ifF (K := K) (by walk_at "ev") (by simp) fun H4 e4 => ?_
    have e04 : Ex H H4 := e03.trans e4
    refine s_rng (K := K) (by walk_at "ev") (by omega) (by omega) fun H5 e5 => ⟨H5, fun j σ' _ => ∃ o2 o3, σ' = [some v, some u, some (.int i), o2, o3], Ex.refl _, ⟨_, _, rfl⟩, ?_, ?_⟩
    · rintro j σ' H6 hj e6 ⟨o2, o3, rfl⟩
      obtain ⟨z, _, hz, hbt⟩ := atI_ex (xs := t) (k := j) (by omega)
      have e06 : Ex H H6 := e04.trans (e5.trans e6)
      refine q_setI (K := K) (x := z) (by walk_at "ev") fun H7 e7 => ?_
      have e07 := e06.trans e7
      refine s_ifF (K := K) (by walk_at "ev") (by simp) fun H8 e8 => ?_
      exact ⟨e6.trans (e7.trans e8), _, _, rfl⟩
    · rintro σ' H6 e6 ⟨o2, o3, rfl⟩
      exact ⟨e3.trans (e4.trans (e5.trans e6)), _, _, _, rfl⟩
  · rintro σ' H3 e3 ⟨o1, o2, o3, rfl⟩
    exact s_ret (K := K) (x := true) (by walk_at "ev") fun v H4 e4 r => q v H4 (e1.trans (e2.trans (e3.trans e4))) r
end
set_option Elab.async false
set_option linter.all false
set_option maxRecDepth 100000
set_option maxHeartbeats 400000
set_option autoImplicit false
open PySem L2 Z
open Evl (Ex)
/-! ### a Row -/
def RowAt (K : PySem.W.Frag) (C : Addr) (H : Hp) (r l : Addr) (xs : List (Tp Int)) : Prop := (∃ dx, H r = some (.ins C dx [("settings", .ref l)])) ∧ Own K H l xs
/-- the first row that is as long as no other: its place; -1: none -/
def badFrom (n : Nat) : List (Tp Int) → Nat → Option Int
  | [], _ => none
  | t :: ts, i => if List.length t = n then badFrom n ts (i + 1) else some i
def badAt : List (Tp Int) → Option Int
  | [] => some (-1)
  | t :: ts => badFrom (List.length t) (t :: ts) 0
theorem badFrom_none {n : Nat} {xs : List (Tp Int)} {i : Nat} (h : ∀ t : Tp Int, t ∈ xs → List.length t = n) : badFrom n xs i = none := by
  induction xs generalizing i with
  | nil => rfl
  | cons t ts ih =>
    unfold badFrom
    rw [if_pos (h t (List.mem_cons_self ..))]
    exact ih fun u hu => h u (List.mem_cons_of_mem _ hu)
theorem badFrom_at {n : Nat} {xs : List (Tp Int)} {i j : Nat} {t : Tp Int} (h : ∀ k u, k < j → xs[k]? = some u → List.length u = n) (hj : xs[j]? = some t) (ht : List.length t ≠ n) : badFrom n xs i = some ((i + j : Nat) : Int) := by
  induction xs generalizing i j with
  | nil => cases hj
  | cons u us ih =>
    unfold badFrom
    cases j with
    | zero =>
      cases hj
      rw [if_neg ht]
      rfl
    | succ j =>
      rw [if_pos (h 0 u (Nat.succ_pos _) rfl), ih (j := j) (fun k v hk hv => h (k + 1) v (Nat.succ_lt_succ hk) hv) hj]
      congr 2
      omega
section
variable {P : Program} {w : World} {K : PySem.W.Frag} {mg : Str → Option Value} {base : Heap} {a : Ad}
theorem RowAt.mono {C : Addr} {G H : Hp} {r l : Addr} {xs : List (Tp Int)} (e : Ex G H) (h : RowAt K C G r l xs) : RowAt K C H r l xs := by
  obtain ⟨⟨dx, h1⟩, h2⟩ := h
  exact ⟨⟨dx, e _ _ h1⟩, h2.mono e⟩
theorem RowAt.other {C : Addr} {H : Hp} {r l q : Addr} {xs : List (Tp Int)} {ws : List V} {o : HO} (h : RowAt K C H r l xs) (hq : H q = some (.lst ws)) (ne : q ≠ l) : RowAt K C (upd H q o) r l xs := by
  obtain ⟨⟨dx, h1⟩, h2⟩ := h
  exact ⟨⟨dx, by rw [upd_ne (fun z => by rw [z, hq] at h1; cases h1)]; exact h1⟩, h2.other hq ne⟩
theorem ok_NotARoww_initw (T : Txt P K mg a) : FnOk P w K mg base CX0 1 a.f_NotARoww_initw a.d_NotARoww_initw ["self", "index"] (spX1 K a.C_NotARow "index") :=
  T.F_NotARoww_initw.ok sc_NotARoww_initw len_X1 fun A outer s H vs Q E hr h => ⟨_, pssa_supE T.F_NotARoww_initw sc_NotARoww_initw rfl rfl (pa_cons pe_str pa_nil) (pssa_of (pss_one (ps_ost (pv 0) (pv 1)))),
    read_X1 T.S_NotARoww_initw T.nf_NotARow_index h (len_X1 _ _ _ _ h).symm⟩
theorem ok_RowsApartw_initw (T : Txt P K mg a) : FnOk P w K mg base CX0 1 a.f_RowsApartw_initw a.d_RowsApartw_initw ["self", "first", "second"] (spX2 K a.C_RowsApart "first" "second") :=
  T.F_RowsApartw_initw.ok sc_RowsApartw_initw len_X2 fun A outer s H vs Q E hr h => ⟨_, pssa_supE T.F_RowsApartw_initw sc_RowsApartw_initw rfl rfl (pa_cons pe_str pa_nil) (pssa_of (pss_cons (ps_ost (pv 0) (pv 1)) (pss_one (ps_ost (pv 0) (pv 2))))),
    read_X2 T.S_RowsApartw_initw T.nf_RowsApart_first T.nf_RowsApart_second h (len_X2 _ _ _ _ h).symm⟩
/-- Row(settings): a row, or the wish for NotARow -/
def spRow (K : PySem.W.Frag) (C N : Addr) : Sp := fun vs H Q E => ∃ x v xs, vs = [.ref x, v] ∧ (∃ dx, H x = some (.ins C dx [])) ∧ Rep K H v xs ∧ Small xs ∧
  (badAt xs = none → ∀ H' l, H l = none → Ex (cut H x) (cut H' x) → RowAt K C H' x l xs → Q .non H') ∧
  (∀ k, badAt xs = some k → ∀ d H', Ex H H' → H' d = some (.xd [("index", .int k)]) → E (.ref N) (some d) H')
theorem ok_Roww_initw (T : Txt P K mg a) : FnOk P w K mg base (L2.CX P w) 3 a.f_Roww_initw a.d_Roww_initw ["self", "settings"] (spRow K a.C_Row a.C_NotARow) := by
  refine T.F_Roww_initw.okX sc_Roww_initw (fun vs H Q E (h : spRow K a.C_Row a.C_NotARow vs H Q E) => by obtain ⟨x, v, xs, rfl, _⟩ := h; rfl) (fun cdv A outer s H vs Q E hr h => ⟨_, (pss_cons (ps_if (pt_not (k_pt_truth (K := K) rfl (pt_truth (pv 1) (by intro _; rfl))))
  (pss_one (ps_raise rfl (takes_of rfl rfl rfl rfl) (pmk_oex T.S_NotARoww_initw.T T.i_NotARoww_initw T.ti_NotARoww_initw (ok_NotARoww_initw T) (hr.mono (by decide)) T.b_NotARoww_initw .nil pass0 (by rfl) T.m_NotARow (pa_cons (pe_un un_neg pe_int) pa_nil))))
  pss_nil)
  (pss_cons (ps_for (passes_of rfl) rfl (k_pi_enum (K := K) rfl (pi_enum (by rfl) T.z_enumerate (pa_cons (pv 1) pa_nil))) (k_pg_tup (K := K) rfl (pg_tup (by rfl) (pgs_cons (pg_name (i := 2) sc_Roww_initw.nd rfl (Or.inl rfl)) (pgs_cons (pg_name (i := 3) sc_Roww_initw.nd rfl (Or.inl rfl)) pgs_nil))))
  (pss_one (ps_if (pt_cmpR op_ne (pe_callB (k_call_len_seq (K := K) rfl) (by rfl) T.z_len (by decide +kernel) (pa_cons (pv 3) pa_nil)) (pe_callB (k_call_len_seq (K := K) rfl) (by rfl) T.z_len (by decide +kernel) (pa_cons (pe_ix (k_ix_list (K := K) rfl) (pv 1) pe_int (fun _ _ => rfl)) pa_nil)) (nomark _))
  (pss_one (ps_raise rfl (takes_of rfl rfl rfl rfl) (pmk_oex T.S_NotARoww_initw.T T.i_NotARoww_initw T.ti_NotARoww_initw (ok_NotARoww_initw T) (hr.mono (by decide)) T.b_NotARoww_initw .nil pass0 (by rfl) T.m_NotARow (pa_cons (pv 2) pa_nil))))
  pss_nil)))
  (pss_one (k_ps_fld (K := K) rfl (ps_fld (pv 0) (pe_callTy (k_call_list_of (K := K) rfl) (by rfl) T.z_list (by decide +kernel) (pa_cons (pv 1) pa_nil)) rfl))))), ?_⟩)
  obtain ⟨r, v, xs, rfl, ⟨dx, hr0⟩, rv, ⟨hs1, hs2⟩, kq, ke⟩ := h
  refine q_if (K := K) (b := xs.isEmpty) ((et_not (et_truL (xs := xs) (by walk_at "ev"))).is (by simp)) (fun hb H1 e1 => ?_) (fun hb H1 e1 => ?_)
  · have hx : xs = [] := by simpa using hb
    subst hx
    refine mk_X1 (K := K) (v := .int (-1)) (ER.evI (by walk_at "ev")) fun d H2 _ e2 hd => ke _ rfl d H2 (e1.trans e2) hd
  · obtain ⟨t0, ts, rfl⟩ : ∃ t0 ts, xs = t0 :: ts := by
      cases xs with
      | nil => cases hb
      | cons t ts => exact ⟨t, ts, rfl⟩
    have hx0 : atI (t0 :: ts) 0 = some t0 := atI_ofN (k := 0) rfl
    refine q_enum (K := K) (xs := t0 :: ts) (by walk_at "ev") fun p vs H2 e2 sq rs => ⟨H2, fun i σ' _ => (∃ o1 o2, σ' = [some (.ref r), some v, o1, o2]) ∧ ∀ k u, k < i → (t0 :: ts)[k]? = some u → List.length u = List.length t0, Ex.refl _, sq, rs, ⟨⟨_, _, rfl⟩, fun k u h => absurd h (Nat.not_lt_zero _)⟩, ?_, ?_⟩
    · rintro i x u σ' H3 H4 hi e3 e4 ru ⟨⟨o1, o2, rfl⟩, hk⟩
      have hxl := hs2 x (List.mem_of_getElem? hi)
      have e04 : Ex H H4 := e1.trans (e2.trans (e3.trans e4))
      have e24 : Ex H2 H4 := e3.trans e4
      refine s_if (K := K) (b := !decide ((List.length x : Int) = List.length t0)) (by walk_at "ev") (fun hb H5 e5 => ?_) (fun hb H5 e5 => ?_)
      · refine mk_X1 (K := K) (v := .int i) (ER.evI (by walk_at "ev")) fun d H6 _ e6 hd => ke i ?_ d H6 (e04.trans (e5.trans e6)) hd
        have hne : List.length x ≠ List.length t0 := by
          have := of_decide_eq_false (Bool.not_eq_true' _ ▸ hb)
          omega
        show badFrom _ _ 0 = _
        rw [badFrom_at hk hi hne, Nat.zero_add]
      · refine ⟨e24.trans e5, ⟨_, _, rfl⟩, fun k u hk' hu => ?_⟩
        rcases Nat.lt_succ_iff_lt_or_eq.mp hk' with h | h
        · exact hk k u h hu
        · subst h
          rw [hi] at hu
          cases hu
          have := of_decide_eq_true (Bool.not_eq_false' _ ▸ hb)
          omega
    · rintro σ' H3 e3 ⟨⟨o1, o2, rfl⟩, hk⟩
      have e03 : Ex H H3 := e1.trans (e2.trans e3)
      have hgood : badAt (t0 :: ts) = none := badFrom_none fun t ht => by
        obtain ⟨k, hlt, hk'⟩ := List.getElem_of_mem ht
        exact hk k t hlt (by rw [List.getElem?_eq_getElem hlt, hk'])
      refine el_list (K := K) (xs := t0 :: ts) (er_var rfl rv e03) H3 (Ex.refl _) _ fun l H4 hl e4 o4 => ?_
      have hr4 : H4 r = some (.ins a.C_Row dx []) := (e03.trans e4) _ _ hr0
      have hlr : l ≠ r := fun z => by rw [z, e03 _ _ hr0] at hl; cases hl
      refine ⟨_, rfl, r, a.C_Row, dx, [], rfl, hr4, T.cl_Row, T.na_Row_settings, by decide, kq hgood _ l (fresh_back e03 hl) ?_ ⟨⟨dx, upd_same⟩, ?_⟩⟩
      · rw [cut_upd]
        exact cut_mono (e03.trans e4)
      · obtain ⟨ws, h1, h2⟩ := o4.ex
        have hc : cut H4 l r = some (.ins a.C_Row dx []) := by rw [cut_ne (Ne.symm hlr)]; exact hr4
        exact ⟨ws, by rw [upd_ne hlr]; exact h1, by rw [cut_upd_ne (Ne.symm hlr)]; exact h2.imm (Tups.insU hc)⟩
end
set_option Elab.async false
set_option linter.all false
set_option maxRecDepth 100000
set_option maxHeartbeats 400000
set_option autoImplicit false
open PySem L2 Z
open Evl (Ex)
section
variable {P : Program} {w : World} {K : PySem.W.Frag} {mg : Str → Option Value} {base : Heap} {a : Ad}
theorem RowAt.em (T : Txt P K mg a) {G H : Hp} {r l : Addr} {xs : List (Tp Int)} {te : TE} {σ : L2.St} (h : EV K te σ H (.ref r)) (at_ : RowAt K a.C_Row G r l xs) (e : Ex G H) : EM K (tFld K te "settings") σ H xs := by
  obtain ⟨⟨dx, h1⟩, h2⟩ := at_
  exact em_fld h h1 e T.cl_Row T.na_Row_settings rfl h2
/-- a property of a row -/
def spR (K : PySem.W.Frag) (C : Addr) {ε : Type} [Dat ε] (pre : List (Tp Int) → ε → Prop) : Sp := fun vs H Q _ => ∃ r l xs y, vs = [.ref r] ∧ RowAt K C H r l xs ∧ Small xs ∧ pre xs y ∧ ∀ w H', Ex H H' → Rep K H' w y → Q w H'
theorem lenR {C : Addr} {ε : Type} [Dat ε] {pre : List (Tp Int) → ε → Prop} {s1 : Str} : ∀ vs H Q E, spR K C pre vs H Q E → vs.length = [s1].length := fun vs H Q E h => by
  obtain ⟨r, l, xs, y, rfl, _⟩ := h
  rfl
theorem ok_Row_start (T : Txt P K mg a) : FnOk P w K mg base CX0 1 a.f_Row_start a.d_Row_start ["self"] (spR K a.C_Row fun xs (y : Tp Int) => atI xs 0 = some y) := by
  refine T.F_Row_start.ok sc_Row_start lenR (fun cdv A outer s H vs Q E hr h => ⟨_, (pss_one (ps_ret (pe_ix (k_ix_list (K := K) rfl) (k_pe_fld (K := K) rfl (pe_fld (pv 0) (by rfl))) pe_int (fun _ _ => rfl)))), ?_⟩)
  obtain ⟨r, l, xs, y, rfl, ha, _, hy, q⟩ := h
  exact s_ret (K := K) (x := y) (er_ixL (EM.er (RowAt.em T (ev_var rfl) ha (Ex.refl _))) er_int hy) q
theorem ok_Row_goal (T : Txt P K mg a) : FnOk P w K mg base CX0 1 a.f_Row_goal a.d_Row_goal ["self"] (spR K a.C_Row fun xs (y : Tp Int) => atI xs (-1) = some y) := by
  refine T.F_Row_goal.ok sc_Row_goal lenR (fun cdv A outer s H vs Q E hr h => ⟨_, (pss_one (ps_ret (pe_ix (k_ix_list (K := K) rfl) (k_pe_fld (K := K) rfl (pe_fld (pv 0) (by rfl))) (pe_un un_neg pe_int) (fun _ _ => rfl)))), ?_⟩)
  obtain ⟨r, l, xs, y, rfl, ha, _, hy, q⟩ := h
  exact s_ret (K := K) (x := y) (er_ixL (EM.er (RowAt.em T (ev_var rfl) ha (Ex.refl _))) (er_neg er_int) hy) q
theorem ok_Row_steps (T : Txt P K mg a) : FnOk P w K mg base CX0 1 a.f_Row_steps a.d_Row_steps ["self"] (spR K a.C_Row fun xs (y : Int) => y = xs.length - 1) := by
  refine T.F_Row_steps.ok sc_Row_steps lenR (fun cdv A outer s H vs Q E hr h => ⟨_, (pss_one (ps_ret (pe_op op_sub (pe_callB (k_call_len_seq (K := K) rfl) (by rfl) T.z_len (by decide +kernel) (pa_cons (k_pe_fld (K := K) rfl (pe_fld (pv 0) (by rfl))) pa_nil)) pe_int))), ?_⟩)
  obtain ⟨r, l, xs, y, rfl, ha, hs, rfl, q⟩ := h
  exact s_ret (K := K) (x := (xs.length : Int) - 1) (er_sub (ed_lenL (EM.er (RowAt.em T (ev_var rfl) ha (Ex.refl _)))) er_int) q
/-- a new row -/
def NewRow (K : PySem.W.Frag) (C : Addr) (te : TE) (σ : L2.St) (H : Hp) (xs : List (Tp Int)) : Prop := ∀ H1, Ex H H1 → ∀ Q : VK, (∀ r l H2, H1 r = none → H1 l = none → Ex H1 H2 → RowAt K C H2 r l xs → Q (.ref r) H2) → te σ H1 Q
theorem mk_core {C N : Addr} {H1 : Hp} {v : V} {xs : List (Tp Int)} {Q : VK} {E : XK} (r : Rep K H1 v xs) (hs : Small xs) (k : badAt xs = none → ∀ r l H2, H1 r = none → H1 l = none → Ex H1 H2 → RowAt K C H2 r l xs → Q (.ref r) H2)
    (ke : ∀ k, badAt xs = some k → ∀ d H2, Ex H1 H2 → H2 d = some (.xd [("index", .int k)]) → E (.ref N) (some d) H2) :
    ∀ x dx, H1 x = none → H1 dx = none → dx ≠ x → spRow K C N [.ref x, v] (upd (upd H1 dx (.own x)) x (.ins C dx [])) (fun v H2 => v = .non ∧ Q (.ref x) H2) E := fun x dx hx hdx hne => by
  have e1 : Ex H1 (upd H1 dx (.own x)) := Evl.Ex.new hdx
  have hx' : (upd H1 dx (.own x)) x = none := by rw [upd_ne (Ne.symm hne)]; exact hx
  have e2 : Ex (upd H1 dx (.own x)) (upd (upd H1 dx (.own x)) x (.ins C dx [])) := Evl.Ex.new hx'
  refine ⟨x, v, xs, rfl, ⟨dx, upd_same⟩, r.mono (e1.trans e2), hs, fun hb H' l hl ex at_ => ⟨rfl, k hb x l H' hx (fresh_back (e1.trans e2) hl) ?_ at_⟩, fun i hi d H' e' hd => ke i hi d H' ((e1.trans e2).trans e') hd⟩
  rw [cut_updn hx'] at ex
  exact e1.trans (ex.trans cut_ex)
theorem new_mk {C N : Addr} {te : TE} {σ : L2.St} {H : Hp} {xs : List (Tp Int)} (h : ER K te σ H xs) (hs : Small xs) (hb : badAt xs = none) : NewRow K C (tMake C (spRow K C N) [] E0 (tCons te tNil)) σ H xs := fun H1 e1 Q q =>
  h H1 e1 _ fun v H2 e2 r => mk_core r hs (fun _ r l H3 hr hl e3 at_ => q r l H3 (fresh_back e2 hr) (fresh_back e2 hl) (e2.trans e3) at_) fun k hk => by rw [hb] at hk; cases hk
/-- what hands on a new row -/
def spNew (K : PySem.W.Frag) (C : Addr) (m : List (Tp Int) → List (Tp Int)) : Sp := fun vs H Q _ => ∃ r l xs, vs = [.ref r] ∧ RowAt K C H r l xs ∧ Small xs ∧ badAt xs = none ∧ ∀ r2 l2 H', H r2 = none → H l2 = none → Ex H H' → RowAt K C H' r2 l2 (m xs) → Q (.ref r2) H'
theorem bad_nil {xs : List (Tp Int)} (h : badAt xs = none) : xs ≠ [] := fun z => by rw [z] at h; cases h
theorem badFrom_all {n : Nat} {xs : List (Tp Int)} {i : Nat} (h : badFrom n xs i = none) : ∀ t : Tp Int, t ∈ xs → List.length t = n := by
  induction xs generalizing i with
  | nil => intro t ht; cases ht
  | cons u us ih =>
    unfold badFrom at h
    split at h
    · intro t ht
      rcases List.mem_cons.mp ht with rfl | ht
      · assumption
      · exact ih h t ht
    · cases h
theorem bad_iff {xs : List (Tp Int)} : badAt xs = none ↔ xs ≠ [] ∧ ∃ n, ∀ t : Tp Int, t ∈ xs → List.length t = n := by
  constructor
  · intro h
    cases xs with
    | nil => cases h
    | cons t ts => exact ⟨List.cons_ne_nil _ _, List.length t, badFrom_all h⟩
  · rintro ⟨h1, n, h2⟩
    cases xs with
    | nil => exact absurd rfl h1
    | cons t ts => exact badFrom_none fun u hu => (h2 u hu).trans (h2 t (List.mem_cons_self ..)).symm
theorem bad_rev {xs : List (Tp Int)} (h : badAt xs = none) : badAt xs.reverse = none := by
  obtain ⟨h1, n, h2⟩ := bad_iff.mp h
  exact bad_iff.mpr ⟨by simpa using h1, n, fun t ht => h2 t (List.mem_reverse.mp ht)⟩
theorem small_rev {xs : List (Tp Int)} (h : Small xs) : Small xs.reverse := ⟨by rw [List.length_reverse]; exact h.1, fun t ht => h.2 t (List.mem_reverse.mp ht)⟩
theorem ok_Row_back (T : Txt P K mg a) : FnOk P w K mg base CX0 5 a.f_Row_back a.d_Row_back ["self"] (spNew K a.C_Row List.reverse) := by
  refine T.F_Row_back.ok sc_Row_back (fun vs H Q E (h : spNew K a.C_Row _ vs H Q E) => by obtain ⟨r, l, xs, rfl, _⟩ := h; rfl) (fun cdv A outer s H vs Q E hr h => ⟨_, (pss_one (ps_ret (pe_make T.mk_Row (ok_Roww_initw T) (hr.mono (by decide)) (by rfl) T.m_Row T.b_Roww_initw .nil passN (pa_cons (k_pe_revL (K := K) rfl (pe_revL (k_pe_fld (K := K) rfl (pe_fld (pv 0) (by rfl))))) pa_nil)))), ?_⟩)
  obtain ⟨r, l, xs, rfl, ha, hs, hb, q⟩ := h
  exact new_mk (N := a.C_NotARow) (EL.er (el_rev (EM.er (RowAt.em T (ev_var rfl) ha (Ex.refl _))))) (small_rev hs) (bad_rev hb) H (Ex.refl _) _ q
/-- first + second: a new row, or the wish for RowsApart -/
def joinD (xs ys : List (Tp Int)) : List (Tp Int) := xs ++ cutD ys (some 1) none
def spAdd (K : PySem.W.Frag) (C N : Addr) : Sp := fun vs H Q E => ∃ r l r' l' xs ys x y, vs = [.ref r, .ref r'] ∧ RowAt K C H r l xs ∧ RowAt K C H r' l' ys ∧ Small xs ∧ Small ys ∧ atI xs (-1) = some x ∧ atI ys 0 = some y ∧
  (y = x → Small (joinD xs ys) ∧ badAt (joinD xs ys) = none ∧ ∀ r2 l2 H', H r2 = none → H l2 = none → Ex H H' → RowAt K C H' r2 l2 (joinD xs ys) → Q (.ref r2) H') ∧
  (y ≠ x → ∀ v u d H', Ex H H' → Rep K H' v x → Rep K H' u y → H' d = some (.xd [("second", u), ("first", v)]) → E (.ref N) (some d) H')
theorem ok_Roww_addw (T : Txt P K mg a) : FnOk P w K mg base (L2.CX P w) 5 a.f_Roww_addw a.d_Roww_addw ["self", "other"] (spAdd K a.C_Row a.C_RowsApart) := by
  refine T.F_Roww_addw.okX sc_Roww_addw (fun vs H Q E (h : spAdd K a.C_Row a.C_RowsApart vs H Q E) => by obtain ⟨r, l, r', l', xs, ys, x, y, rfl, _⟩ := h; rfl) (fun cdv A outer s H vs Q E hr h => ⟨_, (pss_cons (ps_if (pt_cmpR (k_op_neD (K := K) rfl hr.units) (pe_ix (k_ix_list (K := K) rfl) (k_pe_fld (K := K) rfl (pe_fld (pv 1) (by rfl))) pe_int (fun _ _ => rfl)) (pe_ix (k_ix_list (K := K) rfl) (k_pe_fld (K := K) rfl (pe_fld (pv 0) (by rfl))) (pe_un un_neg pe_int) (fun _ _ => rfl)) (nomark _))
  (pss_one (ps_raise rfl (takes_of rfl rfl rfl rfl) (pmk_oex T.S_RowsApartw_initw.T T.i_RowsApartw_initw T.ti_RowsApartw_initw (ok_RowsApartw_initw T) (hr.mono (by decide)) T.b_RowsApartw_initw .nil pass0 (by rfl) T.m_RowsApart (pa_cons (pe_ix (k_ix_list (K := K) rfl) (k_pe_fld (K := K) rfl (pe_fld (pv 0) (by rfl))) (pe_un un_neg pe_int) (fun _ _ => rfl)) (pa_cons (pe_ix (k_ix_list (K := K) rfl) (k_pe_fld (K := K) rfl (pe_fld (pv 1) (by rfl))) pe_int (fun _ _ => rfl)) pa_nil)))))
  pss_nil)
  (pss_one (ps_ret (pe_make T.mk_Row (ok_Roww_initw T) (hr.mono (by decide)) (by rfl) T.m_Row T.b_Roww_initw .nil passN (pa_cons (pe_op op_cat (k_pe_fld (K := K) rfl (pe_fld (pv 0) (by rfl))) (pe_slice (k_sl_list (K := K) rfl) (k_pe_fld (K := K) rfl (pe_fld (pv 1) (by rfl))) (po_some pe_int) po_none)) pa_nil))))), ?_⟩)
  obtain ⟨r, l, r', l', xs, ys, x, y, rfl, ha, hb, hs, hs', hx, hy, k, ke⟩ := h
  have m1 : ∀ {G}, Ex H G → EM K (tFld K (tVar 0) "settings") (L2.start N_Roww_addw [.ref r, .ref r']) G xs := fun e => RowAt.em T (ev_var rfl) ha e
  have m2 : ∀ {G}, Ex H G → EM K (tFld K (tVar 1) "settings") (L2.start N_Roww_addw [.ref r, .ref r']) G ys := fun e => RowAt.em T (ev_var rfl) hb e
  refine q_if (K := K) (b := !decide (y = x)) (et_test (er_neD (er_ixL (EM.er (m2 (Ex.refl _))) er_int hy) (er_ixL (EM.er (m1 (Ex.refl _))) (er_neg er_int) hx))) (fun hb H1 e1 => ?_) (fun hb H1 e1 => ?_)
  · refine mk_X2R (K := K) (x := x) (y := y) (er_ixL (EM.er (m1 e1)) (er_neg er_int) hx) (er_ixL (EM.er (m2 e1)) er_int hy) fun v u d H2 _ e2 r1 r2 hd => ke ?_ v u d H2 (e1.trans e2) r1 r2 hd
    exact of_decide_eq_false (Bool.not_eq_true' _ ▸ hb)
  · obtain ⟨h1, h2, q⟩ := k (of_decide_eq_true (Bool.not_eq_false' _ ▸ hb))
    refine new_mk (N := a.C_NotARow) (EL.er (el_add (m1 e1) (EL.em (el_sl (xs := ys) (EM.er (m2 e1)) (eo_some er_int) eo_none)) ?_)) h1 h2 H1 (Ex.refl _) _ fun r2 l2 H2 hr hl e2 at_ => q r2 l2 H2 (fresh_back e1 hr) (fresh_back e1 hl) (e1.trans e2) at_
    have := h1.1
    unfold joinD at this
    rw [List.length_append] at this
    omega
/-- iter(row) -/
def spIter (K : PySem.W.Frag) (C : Addr) : Nat → Sp := fun n vs H Q _ => ∃ r l xs, vs = [.ref r] ∧ RowAt K C H r l xs ∧ ∀ it vs, H it = none → n ≤ it → H l = some (.lst vs) → Reps K (cut H l) vs xs → Q (.ref it) (upd H it (ItO l it 0))
theorem ok_Roww_iterw (T : Txt P K mg a) : FnOkN P w K mg base CX0 1 a.f_Roww_iterw a.d_Roww_iterw ["self"] (spIter K a.C_Row) := by
  refine fun_okN T.F_Roww_iterw sc_Roww_iterw (fun n vs H Q E (h : spIter K a.C_Row n vs H Q E) => by obtain ⟨r, l, xs, rfl, _⟩ := h; rfl) (fun cdv A outer s H vs Q E hr h => ⟨_, (pss_one (ps_ret (pe_callB call_iterN (by rfl) T.z_iter (by decide +kernel) (pa_cons (k_pe_fld (K := K) rfl (pe_fld (pv 0) (by rfl))) pa_nil)))), ?_⟩)
  obtain ⟨r, l, xs, rfl, ⟨⟨dx, h1⟩, h2⟩, k⟩ := h
  obtain ⟨vs, h3, h4⟩ := h2.ex
  exact ⟨_, rfl, r, a.C_Row, dx, _, .ref l, rfl, h1, T.cl_Row, T.na_Row_settings, rfl, l, vs, rfl, SqL.of h3, fun it hit hn => k it vs hit hn h3 h4⟩
theorem ei_row {C : Addr} {G H : Hp} {te : TE} {σ : L2.St} {r l : Addr} {xs : List (Tp Int)} (h : EV K te σ H (.ref r)) (at_ : RowAt K C G r l xs) (e : Ex G H) : EIt K (iOwn K C (spIter K C) te) σ H xs := fun H1 e1 R q =>
  h H1 e1 _ fun H2 e2 => by
    have e02 := e.trans (e1.trans e2)
    obtain ⟨⟨dx, h1⟩, h2⟩ := at_.mono e02
    refine ⟨r, dx, _, rfl, h1, fun n => ⟨r, l, xs, rfl, ⟨⟨dx, h1⟩, h2⟩, fun it vs hit hn hl hv => ⟨l, it, vs, rfl, hn, upd_same, ?_, ?_⟩⟩⟩
    · rw [cut_updn hit]
      exact SqL.of hl
    · rw [cut_updn hit]
      exact q l vs H2 e2 (SqL.of hl) (hv.mono cut_ex)
end
set_option Elab.async false
set_option linter.all false
set_option maxRecDepth 100000
set_option maxHeartbeats 400000
set_option autoImplicit false
open PySem L2 Z
open Evl (Ex)
section
variable {P : Program} {w : World} {K : PySem.W.Frag} {mg : Str → Option Value} {base : Heap} {a : Ad}
theorem er_prop {C : Addr} {ε : Type} [Dat ε] {pre : List (Tp Int) → ε → Prop} {G H : Hp} {E : XK} {te : TE} {σ : L2.St} {r l : Addr} {xs : List (Tp Int)} {y : ε} (h : EV K te σ H (.ref r)) (at_ : RowAt K C G r l xs) (hs : Small xs) (hy : pre xs y) (e : Ex G H) : ER K (tProp C (spR K C pre) [] E te) σ H y := fun H1 e1 Q q =>
  h H1 e1 _ fun H2 e2 => by
    have at2 := at_.mono (e.trans (e1.trans e2))
    obtain ⟨⟨dx, h1⟩, h2⟩ := at2
    exact ⟨r, dx, _, rfl, h1, r, l, xs, y, rfl, ⟨⟨dx, h1⟩, h2⟩, hs, hy, fun w H3 e3 r3 => q w H3 (e2.trans e3) r3⟩
theorem RowAt.ty (T : Txt P K mg a) {G H : Hp} {r l : Addr} {xs : List (Tp Int)} (at_ : RowAt K a.C_Row G r l xs) (e : Ex G H) : ∀ H2, Ex H H2 → TyX K H2 (.ref r) (.ref a.C_Row) := fun H2 e2 => by
  obtain ⟨⟨dx, h1⟩, h2⟩ := at_.mono (e.trans e2)
  exact T.ty_Row H2 r dx _ h1
def spStands (K : PySem.W.Frag) (C : Addr) : Sp := fun vs H Q _ => ∃ r l u xs, vs = [.ref r, u] ∧ RowAt K C H r l xs ∧ Rep K H u xs ∧ Small xs ∧ badAt xs = none ∧ ∀ H', Ex H H' → Q (.bl true) H'
theorem ok_law_stands (T : Txt P K mg a) : FnOk P w K mg base CX0 3 a.f_law_stands a.d_law_stands ["row", "settings"] (spStands K a.C_Row) := by
  refine T.F_law_stands.ok sc_law_stands (fun vs H Q E (h : spStands K a.C_Row vs H Q E) => by obtain ⟨r, l, u, xs, rfl, _⟩ := h; rfl) (fun cdv A outer s H vs Q E hr h => ⟨_, (pss_cons (ps_if (PW.pt (pw_or (pt_not (pt_val (pe_callB (k_call_isi (K := K) rfl) (by rfl) T.z_isinstance (by decide +kernel) (pa_cons (pv 0) (pa_cons (pe_glob (v := .ref a.C_Row) (by rfl) T.m_Row rfl) pa_nil))))) (pw_or1 (pt_not (pt_val (pe_call (ok_law_equal T) (hr.mono (by decide)) (by rfl) T.m__law_equal T.F_law_equal.kp T.b_law_equal .nil pass0 (pa_cons (k_pe_fld (K := K) rfl (pe_fld (pv 0) (by rfl))) (pa_cons (pv 1) pa_nil))))))))
  (pss_one (ps_ret pe_bl))
  pss_nil)
  (pss_cons (ps_if (pt_not (pt_val (pe_call (ok_law_equal T) (hr.mono (by decide)) (by rfl) T.m__law_equal T.F_law_equal.kp T.b_law_equal .nil pass0 (pa_cons (pe_lst (pa_cons (pe_prop (pv 0) T.cl_Row T.p_Row_start (ok_Row_start T) (hr.mono (by decide)) T.b_Row_start .nil pass0 (by rfl)) (pa_cons (pe_prop (pv 0) T.cl_Row T.p_Row_goal (ok_Row_goal T) (hr.mono (by decide)) T.b_Row_goal .nil pass0 (by rfl)) pa_nil))) (pa_cons (pe_lst (pa_cons (pe_ix (k_ix_list (K := K) rfl) (pv 1) pe_int (fun _ _ => rfl)) (pa_cons (pe_ix (k_ix_list (K := K) rfl) (pv 1) (pe_un un_neg pe_int) (fun _ _ => rfl)) pa_nil))) pa_nil)))))
  (pss_one (ps_ret pe_bl))
  pss_nil)
  (pss_cons (ps_set (i := 2) sc_law_stands.nd rfl (Or.inl rfl) (pe_prop (pv 0) T.cl_Row T.p_Row_steps (ok_Row_steps T) (hr.mono (by decide)) T.b_Row_steps .nil pass0 (by rfl)))
  (pss_cons (ps_if (PW.pt (pw_or (pt_not (pt_val (pe_callB (k_call_isi (K := K) rfl) (by rfl) T.z_isinstance (by decide +kernel) (pa_cons (pv 2) (pa_cons (pe_bltn (v := .ty "int") (by rfl) T.z_int (by decide +kernel) rfl) pa_nil))))) (pw_or (pt_val (pe_callB (k_call_isi (K := K) rfl) (by rfl) T.z_isinstance (by decide +kernel) (pa_cons (pv 2) (pa_cons (pe_bltn (v := .ty "bool") (by rfl) T.z_bool (by decide +kernel) rfl) pa_nil)))) (pw_or1 (pt_cmpR op_ne (pv 2) (pe_op op_sub (pe_callB (k_call_len_seq (K := K) rfl) (by rfl) T.z_len (by decide +kernel) (pa_cons (pv 1) pa_nil)) pe_int) (nomark _))))))
  (pss_one (ps_ret pe_bl))
  pss_nil)
  (pss_one (ps_ret (pe_call (ok_law_equal T) (hr.mono (by decide)) (by rfl) T.m__law_equal T.F_law_equal.kp T.b_law_equal .nil pass0 (pa_cons (pe_lc (own := [("setting", 3)]) rfl sc_law_stands.nd (pi_own T.oi_Row (ok_Roww_iterw T) (hr.mono (by decide)) T.b_Roww_iterw pass0 (pv 0)) (blkOk_by (own := [("setting", 3)]) (N := N_law_stands) (sc := defScope s_law_stands) (by decide +kernel)) (fun _ _ _ _ _ => (pg_name (i := 3) sc_law_stands.nd rfl (Or.inl rfl))) (fun _ _ _ _ _ => pts_nil) (fun _ _ _ _ _ => (pv 3))) (pa_cons (pv 1) pa_nil))))))))), ?_⟩)
  obtain ⟨r, l, u, xs, rfl, ha, ru, hs, hb, q⟩ := h
  have hne := bad_nil hb
  have hpos : 0 < xs.length := List.length_pos_iff.mpr hne
  obtain ⟨x0, m0, _, h0⟩ := atI_ex (xs := xs) (k := 0) hpos
  obtain ⟨x1, h1, g1⟩ := Z.atI_last hpos
  have m1 : x1 ∈ xs := List.mem_of_getLast? g1
  have hs2 : Small [x0, x1] := ⟨by show 2 ≤ 50000; decide, fun t ht => by
    rcases List.mem_cons.mp ht with rfl | ht
    · exact hs.2 _ m0
    · rcases List.mem_cons.mp ht with rfl | ht
      · exact hs.2 _ m1
      · cases ht⟩
  refine q_ifF (K := K) (et_orU (et_not (et_B (er_isiO (ev_var rfl) (RowAt.ty T ha (Ex.refl _)) (.own _) T.kit_Row_Row))) (et_not (et_B (er_c2 (x := xs) (y := xs) (EM.er (RowAt.em T (ev_var rfl) ha (Ex.refl _))) (er_var rfl ru (Ex.refl _)) ⟨rfl, hs⟩)))) rfl fun H1 e1 => ?_
  refine q_ifF (K := K) (et_not (et_B (er_c2 (x := [x0, x1]) (y := [x0, x1]) (EL.er (el_lst (ea_cons (er_prop (ev_var rfl) ha hs h0 e1) (ea_cons (er_prop (ev_var rfl) ha hs h1 e1) ea_nil))))
    (EL.er (el_lst (ea_cons (er_ixL (er_var rfl ru e1) er_int h0) (ea_cons (er_ixL (er_var rfl ru e1) (er_neg er_int) h1) ea_nil)))) ⟨rfl, hs2⟩))) rfl fun H2 e2 => ?_
  have e02 := e1.trans e2
  refine q_setI (K := K) (x := (xs.length : Int) - 1) (er_prop (ev_var rfl) ha hs rfl e02) fun H3 e3 => ?_
  have e03 := e02.trans e3
  refine q_ifF (K := K) (by walk_at "ev") (by simp) fun H4 e4 => ?_
  have e04 := e03.trans e4
  refine s_ret (K := K) (x := true) (er_c2 (x := xs) (y := xs) (EL.er (el_idI (ei_row (ev_var rfl) ha e04) (by show 3 < 4; decide) (by have := hs.1; omega))) (er_var rfl ru e04) ⟨rfl, hs⟩) fun v H5 e5 r5 => ?_
  rw [Rep.bool r5]
  exact q H5 (e04.trans e5)
def spRefused (K : PySem.W.Frag) : Sp := fun vs H Q _ => ∃ v xs k, vs = [v, .int k] ∧ Rep K H v xs ∧ Small xs ∧ badAt xs = some k ∧ ∀ H', Q (.bl true) H'
theorem ok_law_refused (T : Txt P K mg a) : FnOk P w K mg base CX0 5 a.f_law_refused a.d_law_refused ["settings", "index"] (spRefused K) := by
  refine T.F_law_refused.ok sc_law_refused (fun vs H Q E (h : spRefused K vs H Q E) => by obtain ⟨r, l, u, rfl, _⟩ := h; rfl) (fun cdv A outer s H vs Q E hr h => ⟨_, (pss_cons (ps_try_as (i := 2) (Wout := fun _ _ _ _ => False) rfl rfl sc_law_refused.nd rfl rfl ⟨rfl, by decide, Or.inl T.m_NotARow⟩ takes0
  (fun W pn xe tk po => (pss_one (ps_expr (pe_makeS T.mk_Row (ok_Roww_initw T) (hr.mono (by decide)) (by rfl) T.m_Row T.b_Roww_initw (fun σ => passAt tk σ) (pa_cons (pe_callTy (k_call_list_of (K := K) rfl) (by rfl) T.z_list (by decide +kernel) (pa_cons (pv 0) pa_nil)) pa_nil)))))
  (fun ae oe cls d pn hz hf => (pss_cons (ps_if (PW.pt (pw_or (pt_not (pt_val (pe_callB (call_isX hz hf) (by rfl) T.z_isinstance (by decide +kernel) (pa_cons (pv 2) (pa_cons (pe_glob (v := .ref a.C_StepError) (by rfl) T.m_StepError rfl) pa_nil))))) (pw_or (pt_not (pt_val (pe_callB (call_isX hz hf) (by rfl) T.z_isinstance (by decide +kernel) (pa_cons (pv 2) (pa_cons (pe_bltn (v := .ty "ValueError") (by rfl) T.z_ValueError (by decide +kernel) rfl) pa_nil))))) (pw_or1 (pt_val (pe_callB (call_isX hz hf) (by rfl) T.z_isinstance (by decide +kernel) (pa_cons (pv 2) (pa_cons (pe_glob (v := .ref a.C_RowsApart) (by rfl) T.m_RowsApart rfl) pa_nil))))))))
  (pss_one (ps_ret pe_bl))
  pss_nil)
  (pss_one (ps_ret (pe_and (pe_callB (k_call_isi (K := K) rfl) (by rfl) T.z_isinstance (by decide +kernel) (pa_cons (pe_xf T.xf_NotARow T.nf_NotARow_index hz hf (pv 2)) (pa_cons (pe_bltn (v := .ty "int") (by rfl) T.z_int (by decide +kernel) rfl) pa_nil))) (pe_and (pe_not (pe_callB (k_call_isi (K := K) rfl) (by rfl) T.z_isinstance (by decide +kernel) (pa_cons (pe_xf T.xf_NotARow T.nf_NotARow_index hz hf (pv 2)) (pa_cons (pe_bltn (v := .ty "bool") (by rfl) T.z_bool (by decide +kernel) rfl) pa_nil)))) (pe_one (pe_cmpR op_eq (pe_xf T.xf_NotARow T.nf_NotARow_index hz hf (pv 2)) (pv 1) (nomark _))))))))))
  (pss_one (ps_ret pe_bl))), ?_⟩)
  obtain ⟨v, xs, k, rfl, rv, hs, hb, q⟩ := h
  refine s_seq ?_
  refine s_drop ?_
  refine s_mkS (xs := xs) (EL.er (el_list (er_var rfl rv (Ex.refl _)))) fun v1 H1 e1 r1 => ?_
  refine mk_core (Q := fun _ H2 => tRet (tC (.bl false)) { nx := fun x H' => Q V.non H', rt := Q } (L2.start N_law_refused [v, V.int k]) H2) r1 hs (fun h => by rw [hb] at h; cases h) fun k' hk d H2 e2 hd => ?_
  obtain rfl : k = k' := by rw [hb] at hk; exact Option.some.inj hk
  refine ⟨true, T.exm_NotARow_NotARow, fun _ ae hae => ?_, fun z => by cases z⟩
  refine q_ifF (K := K) (et_orU (et_not (et_B (er_isX (ev_var rfl) hd (Ex.refl _) T.xc_NotARow (fun u r => r) T.kit_NotARow_StepError))) (et_orU (et_not (et_B (er_isX (ev_var rfl) hd (Ex.refl _) T.xc_NotARow (fun u r => r) T.kit_NotARow_ValueError))) (et_B (er_isX (ev_var rfl) hd (Ex.refl _) T.xc_NotARow (fun u r => r) T.kit_NotARow_RowsApart)))) rfl fun H3 e3 => ?_
  have hx : ∀ {G te σ}, Ex H3 G → EV K te σ G (.ref ae) → ER K (tXf ae (.ref a.C_NotARow) (some d) a.C_NotARow "index" te) σ G k := fun e h => er_xf h (e3 _ _ hd) e rfl (rep_int k)
  refine s_ret (K := K) (x := true) ((er_andU (er_isi_int (hx (Ex.refl _) (ev_var rfl))) (er_andU (er_notV (er_isi_intb (hx (Ex.refl _) (ev_var rfl)))) (er_eqI (hx (Ex.refl _) (ev_var rfl)) (er_vint rfl)))).is (by simp)) fun v H4 e4 r4 => ?_
  rw [Rep.bool r4]
  exact q H4
def spSum (K : PySem.W.Frag) (C : Addr) : Sp := fun vs H Q _ => ∃ r l r' l' p p' xs ys, vs = [.ref r, .ref r', .ref p, .ref p'] ∧ RowAt K C H r l xs ∧ RowAt K C H r' l' ys ∧ Own K H p xs ∧ Own K H p' ys ∧ Small xs ∧ Small ys ∧ badAt xs = none ∧ badAt ys = none ∧
  Small (joinD xs ys) ∧ badAt (joinD xs ys) = none ∧ ∀ H', Ex H H' → Q (.bl true) H'
theorem ok_law_sum_stands (T : Txt P K mg a) : FnOk P w K mg base CX0 6 a.f_law_sum_stands a.d_law_sum_stands ["first", "second", "settings", "others"] (spSum K a.C_Row) := by
  refine T.F_law_sum_stands.ok sc_law_sum_stands (fun vs H Q E (h : spSum K a.C_Row vs H Q E) => by obtain ⟨r, l, r', l', p, p', xs, ys, rfl, _⟩ := h; rfl) (fun cdv A outer s H vs Q E hr h => ⟨_, (pss_cons (ps_set (i := 4) sc_law_sum_stands.nd rfl (Or.inl rfl) pe_non)
  (pss_cons (ps_set (i := 5) sc_law_sum_stands.nd rfl (Or.inl rfl) (pe_lst pa_nil))
  (pss_cons (ps_try_as (i := 6) (Wout := fun _ _ _ _ => False) rfl rfl sc_law_sum_stands.nd rfl rfl ⟨rfl, by decide, Or.inl T.m_RowsApart⟩ takes0
  (fun W pn xe tk po => (pss_one (ps_set (i := 4) sc_law_sum_stands.nd rfl (Or.inl rfl) (pe_own T.op_Roww_addw (ok_Roww_addw T) (hr.mono (by decide)) T.b_Roww_addw (fun σ => passAt tk σ) (pv 0) (pv 1)))))
  (fun ae oe cls d pn hz hf => (pss_cons (ps_if (PW.pt (pw_or (pt_not (pt_val (pe_callB (call_isX hz hf) (by rfl) T.z_isinstance (by decide +kernel) (pa_cons (pv 6) (pa_cons (pe_glob (v := .ref a.C_StepError) (by rfl) T.m_StepError rfl) pa_nil))))) (pw_or1 (pt_val (pe_callB (call_isX hz hf) (by rfl) T.z_isinstance (by decide +kernel) (pa_cons (pv 6) (pa_cons (pe_glob (v := .ref a.C_NotARow) (by rfl) T.m_NotARow rfl) pa_nil)))))))
  (pss_one (ps_ret pe_bl))
  pss_nil)
  (pss_one (ps_set (i := 5) sc_law_sum_stands.nd rfl (Or.inl rfl) (pe_lst (pa_cons (pe_xf T.xf_RowsApart T.nf_RowsApart_first hz hf (pv 6)) (pa_cons (pe_xf T.xf_RowsApart T.nf_RowsApart_second hz hf (pv 6)) pa_nil))))))))
  (pss_cons (ps_if (pt_cmpR (k_op_eqD (K := K) rfl hr.units) (pe_ix (k_ix_list (K := K) rfl) (pv 2) (pe_un un_neg pe_int) (fun _ _ => rfl)) (pe_ix (k_ix_list (K := K) rfl) (pv 3) pe_int (fun _ _ => rfl)) (nomark _))
  (pss_one (ps_ret (pe_and (pe_cmpR (k_op_eqD (K := K) rfl hr.units) (pv 5) (pe_lst pa_nil) (nomark _)) (pe_one (pe_call (ok_law_stands T) (hr.mono (by decide)) (by rfl) T.m__law_stands T.F_law_stands.kp T.b_law_stands .nil pass0 (pa_cons (pv 4) (pa_cons (pe_op op_cat (pv 2) (pe_slice (k_sl_list (K := K) rfl) (pv 3) (po_some pe_int) po_none)) pa_nil)))))))
  pss_nil)
  (pss_one (ps_ret (pe_call (ok_law_equal T) (hr.mono (by decide)) (by rfl) T.m__law_equal T.F_law_equal.kp T.b_law_equal .nil pass0 (pa_cons (pv 5) (pa_cons (pe_lst (pa_cons (pe_ix (k_ix_list (K := K) rfl) (pv 2) (pe_un un_neg pe_int) (fun _ _ => rfl)) (pa_cons (pe_ix (k_ix_list (K := K) rfl) (pv 3) pe_int (fun _ _ => rfl)) pa_nil))) pa_nil))))))))), ?_⟩)
  obtain ⟨r, l, r', l', p, p', xs, ys, rfl, ha, ha', op, op', hs, hs', hb, hb', hj, hjb, q⟩ := h
  obtain ⟨x, hx, gx⟩ := Z.atI_last (xs := xs) (List.length_pos_iff.mpr (bad_nil hb))
  obtain ⟨y, my, _, hy⟩ := atI_ex (xs := ys) (k := 0) (List.length_pos_iff.mpr (bad_nil hb'))
  have mx : x ∈ xs := List.mem_of_getLast? gx
  have hs2 : Small [x, y] := ⟨by show 2 ≤ 50000; decide, fun t ht => by
    rcases List.mem_cons.mp ht with rfl | ht
    · exact hs.2 _ mx
    · rcases List.mem_cons.mp ht with rfl | ht
      · exact hs'.2 _ my
      · cases ht⟩
  refine q_setV (K := K) ev_c fun H1 e1 => ?_
  refine q_setL (K := K) (α := Tp Int) (xs := []) (el_lst ea_nil) fun pe H2 hpe e2 oe => ?_
  have e02 := e1.trans e2
  have at1 := ha.mono e02
  have at2 := ha'.mono e02
  obtain ⟨dx, hi1⟩ := at1.1
  obtain ⟨dy, hi2⟩ := at2.1
  refine ⟨_, rfl, _, rfl, r, dx, _, r', dy, _, rfl, rfl, hi1, hi2, r, l, r', l', xs, ys, x, y, rfl, at1, at2, hs, hs', hx, hy, fun hxy => ⟨hj, hjb, fun r2 l2 H3 _ _ e3 at3 => ?_⟩, fun hxy v u d H3 e3 rv ru hd => ?_⟩
  · have e03 := e02.trans e3
    refine q_ifT (K := K) (et_test (er_eqD (er_ixL (er_own rfl op e03) (er_neg er_int) hx) (er_ixL (er_own rfl op' e03) er_int hy))) (decide_eq_true hxy.symm) fun H4 e4 => ?_
    have e04 := e03.trans e4
    have hstand : ER K (tCall (spStands K a.C_Row) [] E0 (tCons (tVar 4) (tCons (tOp rCat (tVar 2) (tSl (rSlL K) (tVar 3) (tPart (tC (.int 1))) tNoPart)) tNil))) ((L2.start N_law_sum_stands [.ref r, .ref r', .ref p, .ref p'] |>.set 4 (some .non) |>.set 5 (some (.ref pe))).set 4 (some (.ref r2))) H4 true := fun H5 e5 Q' q' => ⟨_, rfl, el_add (em_own rfl op (e04.trans e5)) (EL.em (el_sl (xs := ys) (er_own rfl op' (e04.trans e5)) (eo_some er_int) eo_none)) (by
      have := hj.1
      unfold joinD at this
      rw [List.length_append] at this
      omega) H5 (Ex.refl _) _ fun pj H6 _ e6 oj => ⟨r2, l2, _, joinD xs ys, rfl, at3.mono (e4.trans (e5.trans e6)), oj.rep, hj, hjb, fun H7 e7 => q' _ H7 (e6.trans e7) (rep_bool _)⟩⟩
    refine s_ret (K := K) (x := true) ((er_andU (er_eqD (er_own rfl oe (e3.trans e4)) (EL.er (el_lst ea_nil))) hstand).is (by simp)) fun v H5 e5 r5 => ?_
    rw [Rep.bool r5]
    exact q H5 (e04.trans e5)
  · have e03 := e02.trans e3
    refine ⟨true, T.exm_RowsApart_RowsApart, fun _ ae hae => ?_, fun z => by cases z⟩
    refine q_ifF (K := K) (et_orU (et_not (et_B (er_isX (ev_var rfl) hd (Ex.refl _) T.xc_RowsApart (fun u r => r) T.kit_RowsApart_StepError))) (et_B (er_isX (ev_var rfl) hd (Ex.refl _) T.xc_RowsApart (fun u r => r) T.kit_RowsApart_NotARow))) rfl fun H4 e4 => ?_
    refine s_setL (K := K) (xs := [x, y]) (el_lst (ea_cons (er_xf (ev_var rfl) hd e4 rfl rv) (ea_cons (er_xf (ev_var rfl) hd e4 rfl ru) ea_nil))) fun pe' H5 _ e5 oe' => ?_
    have e05 := e03.trans (e4.trans e5)
    refine q_ifF (K := K) (et_test (er_eqD (er_ixL (er_own rfl op e05) (er_neg er_int) hx) (er_ixL (er_own rfl op' e05) er_int hy))) (decide_eq_false (Ne.symm hxy)) fun H6 e6 => ?_
    have e06 := e05.trans e6
    refine s_ret (K := K) (x := true) (er_c2 (x := [x, y]) (y := [x, y]) (er_own rfl oe' e6) (EL.er (el_lst (ea_cons (er_ixL (er_own rfl op e06) (er_neg er_int) hx) (ea_cons (er_ixL (er_own rfl op' e06) er_int hy) ea_nil)))) ⟨rfl, hs2⟩) fun v H7 e7 r7 => ?_
    rw [Rep.bool r7]
    exact q H7 (e06.trans e7)
end
set_option Elab.async false
set_option linter.all false
set_option maxRecDepth 100000
set_option maxHeartbeats 400000
set_option autoImplicit false
open PySem L2 Z
/-! ### plain facts -/
theorem big_at {bs : List Int} {r : Int} {i : Nat} {b : Int} (h : bs[i]? = some b) (hb : 0 < b) : ∃ x, (big r bs)[i]? = some x ∧ 0 ≤ x ∧ x < b := by
  induction bs generalizing r i with
  | nil => cases h
  | cons c cs ih =>
    cases i with
    | zero =>
      cases h
      exact ⟨_, rfl, Int.emod_nonneg _ (by omega), Int.emod_lt_of_pos _ hb⟩
    | succ i => exact ih h
theorem small_at {bs : List Int} {r : Int} {i : Nat} {b : Int} (h : bs[i]? = some b) (hb : 0 < b) : ∃ x, (small r bs)[i]? = some x ∧ 0 ≤ x ∧ x < b := by
  induction bs generalizing r i with
  | nil => cases h
  | cons c cs ih =>
    cases i with
    | zero =>
      cases h
      exact ⟨_, rfl, Int.emod_nonneg _ (by omega), Int.emod_lt_of_pos _ hb⟩
    | succ i => exact ih h
theorem draw_at {bs : List Int} {c : Int} {i : Nat} {b : Int} (h : bs[i]? = some b) (hb : 0 < b) : ∃ x, atI (draw c bs) (i : Int) = some x ∧ 0 ≤ x ∧ x < b := by
  have : ∃ x, (draw c bs)[i]? = some x ∧ 0 ≤ x ∧ x < b := by
    unfold draw
    split
    · exact big_at h hb
    · exact small_at h hb
  obtain ⟨x, h1, h2⟩ := this
  exact ⟨x, Z.atI_ofN h1, h2⟩
/-- n rows, each of m -/
def Good (n m : Nat) (xs : List (Tp Int)) : Prop := xs.length = n ∧ ∀ t : Tp Int, t ∈ xs → List.length t = m
theorem Good.set {n m j : Nat} {xs : List (Tp Int)} {t : Tp Int} (h : Good n m xs) (ht : List.length t = m) : Good n m (xs.set j t) := ⟨by rw [List.length_set]; exact h.1, fun u hu => by
  rcases List.mem_or_eq_of_mem_set hu with hu | rfl
  · exact h.2 u hu
  · exact ht⟩
theorem Good.small {n m : Nat} {xs : List (Tp Int)} (h : Good n m xs) (hn : n ≤ 50000) (hm : m ≤ 50000) : Small xs := ⟨h.1 ▸ hn, fun t ht => (h.2 t ht) ▸ hm⟩
theorem Good.bad {n m : Nat} {xs : List (Tp Int)} (h : Good n m xs) (hn : 0 < n) : badAt xs = none := bad_iff.mpr ⟨fun z => by rw [z] at h; have := h.1; simp at this; omega, m, h.2⟩
theorem Good.append {n n' m : Nat} {xs ys : List (Tp Int)} (h : Good n m xs) (h' : Good n' m ys) : Good (n + n') m (xs ++ ys) := ⟨by rw [List.length_append, h.1, h'.1], fun t ht => by
  rcases List.mem_append.mp ht with h1 | h1
  · exact h.2 t h1
  · exact h'.2 t h1⟩
theorem cut_tail (ys : List (Tp Int)) : cutD ys (some 1) none = ys.drop 1 := by
  unfold cutD
  rw [HT.sIx_none, show (some (1 : Int)) = some (((1 : Nat) : Int)) from rfl, HT.sIx_nat]
  cases ys with
  | nil => rfl
  | cons y ys =>
    rw [show min 1 (y :: ys).length = 1 by simp]
    exact List.take_of_length_le (by simp)
theorem Good.join {n n' m : Nat} {xs ys : List (Tp Int)} (h : Good n m xs) (h' : Good n' m ys) : Good (n + (n' - 1)) m (joinD xs ys) := by
  unfold joinD
  rw [cut_tail]
  exact h.append ⟨by rw [List.length_drop, h'.1], fun t ht => h'.2 t (List.mem_of_mem_drop ht)⟩
theorem cut_len {α : Type} {xs : List α} {i j : Nat} (hi : i ≤ j) (hj : j ≤ xs.length) : (cutD xs (some (i : Int)) (some (j : Int))).length = j - i := by
  unfold cutD
  rw [HT.sIx_nat, HT.sIx_nat, List.length_take, List.length_drop]
  omega
theorem cut_init {α : Type} (xs : List α) (h : 0 < xs.length) : (cutD xs none (some (-1))).length = xs.length - 1 := by
  unfold cutD
  rw [HT.sIx_none, List.length_take, List.length_drop]
  rw [show HT.sIx xs.length xs.length (some (-1)) = ((-1 : Int) + (xs.length : Int)).toNat from rfl]
  omega
theorem vals_len {c n m : Int} : (vals c n m).length = (n * m).toNat := by
  unfold vals
  rw [List.length_map, draw_len, List.length_replicate]
theorem settings_good {c n m : Int} (hm : 0 ≤ m) : Good n.toNat m.toNat (settings c n m) := by
  refine ⟨settings_len c n m, fun t ht => ?_⟩
  obtain ⟨k, hk, rfl⟩ := List.mem_map.mp ht
  have hk := List.mem_range.mp hk
  obtain ⟨m, rfl⟩ := Int.eq_ofNat_of_zero_le hm
  show (cutD _ _ _).length = _
  rw [show ((k : Int) * (m : Int)) = ((k * m : Nat) : Int) by push_cast; rfl, show (((k : Int) + 1) * (m : Int)) = (((k + 1) * m : Nat) : Int) by push_cast; rfl, cut_len (Nat.mul_le_mul_right m (Nat.le_succ k))]
  · rw [show k.succ = k + 1 from rfl, Nat.add_mul, Nat.one_mul, Int.toNat_natCast]
    omega
  · rw [vals_len]
    obtain ⟨n', rfl⟩ : ∃ n' : Nat, n = n' := ⟨n.toNat, by omega⟩
    rw [show ((n' : Int) * (m : Int)) = ((n' * m : Nat) : Int) by push_cast; rfl, Int.toNat_natCast]
    exact Nat.mul_le_mul_right m (by have := Int.toNat_natCast n'; omega)
/-- a row set too long at j, and perhaps the last one longer still -/
theorem bad_at {n m j : Nat} {xs zs : List (Tp Int)} {t : Tp Int} (h : Good n m xs) (h1 : 1 ≤ j) (hj : zs[j]? = some t) (ht : List.length t ≠ m) (hb : ∀ k, k < j → zs[k]? = xs[k]?) : badAt zs = some (j : Int) := by
  have hjl : j < zs.length := (List.getElem?_eq_some_iff.mp hj).1
  cases zs with
  | nil => cases hj
  | cons z zs =>
    have h0 : xs[0]? = some z := (hb 0 h1).symm
    have hz : List.length z = m := h.2 z (List.mem_of_getElem? h0)
    show badFrom _ _ 0 = _
    rw [badFrom_at (j := j) (t := t) (fun k u hk hu => ?_) hj (by rw [hz]; exact ht), Nat.zero_add]
    rw [hb k hk] at hu
    rw [hz]
    exact h.2 u (List.mem_of_getElem? hu)
theorem wrong1 {n m j : Nat} {xs : List (Tp Int)} {t' : Tp Int} (h : Good n m xs) (h1 : 1 ≤ j) (hj : j < n) (ht : List.length t' ≠ m) : badAt (xs.set j t') = some (j : Int) :=
  bad_at h h1 (List.getElem?_set_self (by rw [h.1]; exact hj)) ht fun k hk => List.getElem?_set_ne (by omega)
theorem wrong2 {n m j : Nat} {xs : List (Tp Int)} {t t' : Tp Int} (h : Good n m xs) (h1 : 1 ≤ j) (hj : j < n) (ht : List.length t ≠ m) (ht' : List.length t' ≠ m) : badAt ((xs.set j t).set (n - 1) t') = some (j : Int) := by
  by_cases e : j = n - 1
  · subst e
    rw [List.set_set]
    exact wrong1 h h1 hj ht'
  · refine bad_at h h1 (t := t) ?_ ht fun k hk => ?_
    · rw [List.getElem?_set_ne (by omega)]
      exact List.getElem?_set_self (by rw [h.1]; exact hj)
    · rw [List.getElem?_set_ne (by omega), List.getElem?_set_ne (by omega)]
set_option Elab.async false
set_option linter.all false
set_option maxRecDepth 100000
set_option maxHeartbeats 1000000
set_option autoImplicit false
open PySem L2 Z
open Evl (Ex)
section
variable {P : Program} {w : World} {K : PySem.W.Frag} {mg : Str → Option Value} {base : Heap} {a : Ad}
theorem q_new {C : Addr} {te : TE} {σ : L2.St} {H : Hp} {xs : List (Tp Int)} {u : TS} {D : Ends} {i : Nat} (h : NewRow K C te σ H xs) (k : ∀ r l H', H r = none → H l = none → Ex H H' → RowAt K C H' r l xs → u D (σ.set i (some (.ref r))) H') : tSeq (tAsg te (gName i)) u D σ H := h H (Ex.refl _) _ k
theorem new_back {C : Addr} {E : XK} {G H : Hp} {te : TE} {σ : L2.St} {r l : Addr} {xs : List (Tp Int)} (h : EV K te σ H (.ref r)) (at_ : RowAt K C G r l xs) (e : Ex G H) (hs : Small xs) (hb : badAt xs = none) : NewRow K C (tMeth C "back" (spNew K C List.reverse) [] E te tNil) σ H xs.reverse := fun H1 e1 Q q =>
  h H1 e1 _ fun H2 e2 => by
    obtain ⟨⟨dx, h1⟩, h2⟩ := at_.mono (e.trans (e1.trans e2))
    exact ⟨r, dx, _, rfl, h1, rfl, r, l, xs, rfl, ⟨⟨dx, h1⟩, h2⟩, hs, hb, fun r2 l2 H3 hr hl e3 a3 => q r2 l2 H3 (fresh_back e2 hr) (fresh_back e2 hl) (e2.trans e3) a3⟩
theorem er_stands {C : Addr} {E : XK} {G H : Hp} {te tu : TE} {σ : L2.St} {r l : Addr} {xs : List (Tp Int)} (h : EV K te σ H (.ref r)) (at_ : RowAt K C G r l xs) (e : Ex G H) (hu : ER K tu σ H xs) (hs : Small xs) (hb : badAt xs = none) : ER K (tCall (spStands K C) [] E (tCons te (tCons tu tNil))) σ H true := fun H1 e1 Q q =>
  h H1 e1 _ fun H2 e2 => hu H2 (e1.trans e2) _ fun v H3 e3 rv => ⟨r, l, v, xs, rfl, at_.mono (e.trans (e1.trans (e2.trans e3))), rv, hs, hb, fun H4 e4 => q _ H4 (e2.trans (e3.trans e4)) (rep_bool _)⟩
theorem er_standsN {C : Addr} {E : XK} {H : Hp} {te tu : TE} {σ : L2.St} {xs : List (Tp Int)} (h : NewRow K C te σ H xs) (hu : ER K tu σ H xs) (hs : Small xs) (hb : badAt xs = none) : ER K (tCall (spStands K C) [] E (tCons te (tCons tu tNil))) σ H true := fun H1 e1 Q q =>
  h H1 e1 _ fun r l H2 _ _ e2 at_ => hu H2 (e1.trans e2) _ fun v H3 e3 rv => ⟨r, l, v, xs, rfl, at_.mono e3, rv, hs, hb, fun H4 e4 => q _ H4 (e2.trans (e3.trans e4)) (rep_bool _)⟩
theorem er_sum {C : Addr} {E : XK} {G H : Hp} {σ : L2.St} {i1 i2 i3 i4 : Nat} {r l r' l' p p' : Addr} {xs ys : List (Tp Int)} (h1 : σ[i1]? = some (some (.ref r))) (h2 : σ[i2]? = some (some (.ref r'))) (h3 : σ[i3]? = some (some (.ref p))) (h4 : σ[i4]? = some (some (.ref p')))
    (a1 : RowAt K C G r l xs) (a2 : RowAt K C G r' l' ys) (o1 : Own K G p xs) (o2 : Own K G p' ys) (e : Ex G H) (hs : Small xs) (hs' : Small ys) (hb : badAt xs = none) (hb' : badAt ys = none) (hj : Small (joinD xs ys)) (hjb : badAt (joinD xs ys) = none) :
    ER K (tCall (spSum K C) [] E (tCons (tVar i1) (tCons (tVar i2) (tCons (tVar i3) (tCons (tVar i4) tNil))))) σ H true := fun H1 e1 Q q =>
  ⟨_, h1, _, h2, _, h3, _, h4, r, l, r', l', p, p', xs, ys, rfl, a1.mono (e.trans e1), a2.mono (e.trans e1), o1.mono (e.trans e1), o2.mono (e.trans e1), hs, hs', hb, hb', hj, hjb, fun H4 e4 => q _ H4 e4 (rep_bool _)⟩
theorem er_refused {E : XK} {H : Hp} {te tk : TE} {σ : L2.St} {xs : List (Tp Int)} {k : Int} (h : ER K te σ H xs) (hk : ER K tk σ H k) (hs : Small xs) (hb : badAt xs = some k) : ∀ H1, Ex H H1 → ∀ Q : VK, (∀ H', Q (.bl true) H') → (tCall (spRefused K) [] E (tCons te (tCons tk tNil))) σ H1 Q := fun H1 e1 Q q =>
  h H1 e1 _ fun v H2 e2 rv => hk.evI H2 (e1.trans e2) _ fun H3 e3 => ⟨v, xs, k, rfl, rv.mono e3, hs, hb, q⟩
theorem RowAt.cut {C : Addr} {H : Hp} {r l q : Addr} {xs : List (Tp Int)} {ws : List V} (h : RowAt K C H r l xs) (hq : H q = some (.lst ws)) (ne : q ≠ l) : RowAt K C (Z.cut H q) r l xs := by
  obtain ⟨⟨dx, h1⟩, h2⟩ := h
  exact ⟨⟨dx, by rw [cut_ne (fun z => by rw [z, hq] at h1; cases h1)]; exact h1⟩, h2.cut hq ne⟩
theorem s_ret_and {ta tb : TE} {σ : L2.St} {H : Hp} {D : Ends} (h : ∀ Q : VK, (∀ H', Q (.bl true) H') → ta σ H Q) (h2 : ∀ H1, ∀ Q : VK, (∀ H', Q (.bl true) H') → tb σ H1 Q) (q : ∀ H', D.rt (.bl true) H') : tRet (tAndV ta tb) D σ H := h _ fun H1 => ⟨true, rfl, h2 H1 _ q⟩
theorem ok_law (T : Txt P K mg a) : FnOk P w K mg base CX0 7 a.f_law a.d_law ["script"] (spLaw K) := by
  refine T.F_law.ok sc_law (fun vs H Q E (h : spLaw K vs H Q E) => by obtain ⟨s0, ns, rfl, _⟩ := h; rfl) (fun cdv A outer s H vs Q E hr h => ⟨_, (pss_cons (ps_set (i := 1) sc_law.nd rfl (Or.inl rfl) (pe_call (ok_law_draw T) (hr.mono (by decide)) (by rfl) T.m__law_draw T.F_law_draw.kp T.b_law_draw .nil pass0 (pa_cons (pe_call (ok_law_cell T) (hr.mono (by decide)) (by rfl) T.m__law_cell T.F_law_cell.kp T.b_law_cell .nil pass0 (pa_cons (pv 0) (pa_cons pe_int pa_nil))) (pa_cons (pe_lst (pa_cons pe_int (pa_cons pe_int (pa_cons pe_int (pa_cons pe_int (pa_cons pe_int (pa_cons pe_int (pa_cons pe_int (pa_cons pe_int (pa_cons pe_int pa_nil)))))))))) pa_nil))))
  (pss_cons (ps_set (i := 2) sc_law.nd rfl (Or.inl rfl) (pe_ix (k_ix_list (K := K) rfl) (pv 1) pe_int (fun _ _ => rfl)))
  (pss_cons (ps_set (i := 3) sc_law.nd rfl (Or.inl rfl) (pe_lst (pa_cons (pe_op op_add pe_int (pe_ix (k_ix_list (K := K) rfl) (pv 1) pe_int (fun _ _ => rfl))) (pa_cons (pe_op op_add pe_int (pe_ix (k_ix_list (K := K) rfl) (pv 1) pe_int (fun _ _ => rfl))) pa_nil))))
  (pss_cons (ps_if (pt_cmpR op_eq (pe_ix (k_ix_list (K := K) rfl) (pv 1) pe_int (fun _ _ => rfl)) pe_int (nomark _))
  (pss_cons (ps_set (i := 2) sc_law.nd rfl (Or.inl rfl) (pe_op op_mod (pe_ix (k_ix_list (K := K) rfl) (pv 1) pe_int (fun _ _ => rfl)) pe_int))
  (pss_one (ps_set (i := 3) sc_law.nd rfl (Or.inl rfl) (pe_lst (pa_cons (pe_op op_add pe_int (pe_op op_mod (pe_op op_fdiv (pe_ix (k_ix_list (K := K) rfl) (pv 1) pe_int (fun _ _ => rfl)) pe_int) pe_int)) (pa_cons (pe_op op_add pe_int (pe_op op_mod (pe_ix (k_ix_list (K := K) rfl) (pv 1) pe_int (fun _ _ => rfl)) pe_int)) pa_nil))))))
  pss_nil)
  (pss_cons (ps_set (i := 4) sc_law.nd rfl (Or.inl rfl) (pe_call (ok_law_settings T) (hr.mono (by decide)) (by rfl) T.m__law_settings T.F_law_settings.kp T.b_law_settings .nil pass0 (pa_cons (pe_call (ok_law_cell T) (hr.mono (by decide)) (by rfl) T.m__law_cell T.F_law_cell.kp T.b_law_cell .nil pass0 (pa_cons (pv 0) (pa_cons pe_int pa_nil))) (pa_cons (pe_ix (k_ix_list (K := K) rfl) (pv 3) pe_int (fun _ _ => rfl)) (pa_cons (pv 2) pa_nil)))))
  (pss_cons (ps_set (i := 5) sc_law.nd rfl (Or.inl rfl) (pe_call (ok_law_settings T) (hr.mono (by decide)) (by rfl) T.m__law_settings T.F_law_settings.kp T.b_law_settings .nil pass0 (pa_cons (pe_call (ok_law_cell T) (hr.mono (by decide)) (by rfl) T.m__law_cell T.F_law_cell.kp T.b_law_cell .nil pass0 (pa_cons (pv 0) (pa_cons pe_int pa_nil))) (pa_cons (pe_ix (k_ix_list (K := K) rfl) (pv 3) pe_int (fun _ _ => rfl)) (pa_cons (pv 2) pa_nil)))))
  (pss_cons (ps_if (PW.pt (pw_and (pt_cmpR op_eq (pe_ix (k_ix_list (K := K) rfl) (pv 1) pe_int (fun _ _ => rfl)) pe_int (nomark _)) (pw_and1 (pt_cmpR op_gt (pv 2) pe_int (nomark _)))))
  (pss_cons (ps_set (i := 6) sc_law.nd rfl (Or.inl rfl) (pe_op op_sub (pe_op op_mod (pe_callTy call_int1 (by rfl) T.z_int (by decide +kernel) (pa_cons (pe_call (ok_law_cell T) (hr.mono (by decide)) (by rfl) T.m__law_cell T.F_law_cell.kp T.b_law_cell .nil pass0 (pa_cons (pv 0) (pa_cons pe_int pa_nil))) pa_nil)) (pe_op op_mul pe_int (pe_op op_pow pe_int pe_int))) (pe_op op_pow pe_int pe_int)))
  (pss_one (ps_asg (pe_op (k_op_catA (K := K) rfl) (pe_slice (k_sl_tupA (K := K) rfl) (pe_ix (k_ix_list (K := K) rfl) (pv 4) (pe_un un_neg pe_int) (fun _ _ => rfl)) po_none (po_some (pe_un un_neg pe_int))) (pe_tup (pa_cons (pv 6) pa_nil))) (pg_sub (pv 4) (pe_un un_neg pe_int) set_list))))
  pss_nil)
  (pss_cons (ps_if (pt_cmpR op_ne (pe_ix (k_ix_list (K := K) rfl) (pv 1) pe_int (fun _ _ => rfl)) pe_int (nomark _))
  (pss_one (ps_asg (pe_ix (k_ix_list (K := K) rfl) (pv 4) (pe_un un_neg pe_int) (fun _ _ => rfl)) (pg_sub (pv 5) pe_int set_list)))
  pss_nil)
  (pss_cons (ps_set (i := 7) sc_law.nd rfl (Or.inl rfl) (pe_callTy (k_call_list_of (K := K) rfl) (by rfl) T.z_list (by decide +kernel) (pa_cons (pv 4) pa_nil)))
  (pss_cons (ps_set (i := 8) sc_law.nd rfl (Or.inl rfl) (pe_make T.mk_Row (ok_Roww_initw T) (hr.mono (by decide)) (by rfl) T.m_Row T.b_Roww_initw .nil passN (pa_cons (pv 7) pa_nil)))
  (pss_cons (ps_asg (pe_op (k_op_catA (K := K) rfl) (pe_ix (k_ix_list (K := K) rfl) (pv 7) pe_int (fun _ _ => rfl)) (pe_tup (pa_cons pe_int pa_nil))) (pg_sub (pv 7) pe_int set_list))
  (pss_cons (ps_expr (k_pe_bm (K := K) rfl (pe_bm PySem.F.plainAttrs_list PySem.F.slot_list_append PySem.F.type_list_append mt_append (pv 7) (pa_cons (pe_ix (k_ix_list (K := K) rfl) (pv 4) pe_int (fun _ _ => rfl)) pa_nil))))
  (pss_cons (ps_if (PW.pt (pw_or (pt_not (pt_val (pe_call (ok_law_stands T) (hr.mono (by decide)) (by rfl) T.m__law_stands T.F_law_stands.kp T.b_law_stands .nil pass0 (pa_cons (pv 8) (pa_cons (pv 4) pa_nil))))) (pw_or1 (pt_not (pt_val (pe_call (ok_law_stands T) (hr.mono (by decide)) (by rfl) T.m__law_stands T.F_law_stands.kp T.b_law_stands .nil pass0 (pa_cons (pe_meth0 (pv 8) T.cl_Row T.me_Row_back (ok_Row_back T) (hr.mono (by decide)) T.b_Row_back .nil pass0) (pa_cons (k_pe_revL (K := K) rfl (pe_revL (pv 4))) pa_nil))))))))
  (pss_one (ps_ret pe_bl))
  pss_nil)
  (pss_cons (ps_set (i := 9) sc_law.nd rfl (Or.inl rfl) (pe_make T.mk_Row (ok_Roww_initw T) (hr.mono (by decide)) (by rfl) T.m_Row T.b_Roww_initw .nil passN (pa_cons (pe_callTy (k_call_list_of (K := K) rfl) (by rfl) T.z_list (by decide +kernel) (pa_cons (pv 5) pa_nil)) pa_nil)))
  (pss_cons (ps_if (pt_not (pt_val (pe_call (ok_law_sum_stands T) (hr.mono (by decide)) (by rfl) T.m__law_sum_stands T.F_law_sum_stands.kp T.b_law_sum_stands .nil pass0 (pa_cons (pv 8) (pa_cons (pv 9) (pa_cons (pv 4) (pa_cons (pv 5) pa_nil)))))))
  (pss_one (ps_ret pe_bl))
  pss_nil)
  (pss_cons (ps_if (PW.pt (pw_or (pt_not (pt_val (pe_call (ok_law_stands T) (hr.mono (by decide)) (by rfl) T.m__law_stands T.F_law_stands.kp T.b_law_stands .nil pass0 (pa_cons (pv 8) (pa_cons (pv 4) pa_nil))))) (pw_or1 (pt_not (pt_val (pe_call (ok_law_stands T) (hr.mono (by decide)) (by rfl) T.m__law_stands T.F_law_stands.kp T.b_law_stands .nil pass0 (pa_cons (pv 9) (pa_cons (pv 5) pa_nil))))))))
  (pss_one (ps_ret pe_bl))
  pss_nil)
  (pss_cons (ps_set (i := 10) sc_law.nd rfl (Or.inl rfl) (pe_op op_cat (pv 4) (pv 5)))
  (pss_cons (ps_set (i := 11) sc_law.nd rfl (Or.inl rfl) (pe_op op_add pe_int (pe_op op_mod (pe_callTy call_int1 (by rfl) T.z_int (by decide +kernel) (pa_cons (pe_call (ok_law_cell T) (hr.mono (by decide)) (by rfl) T.m__law_cell T.F_law_cell.kp T.b_law_cell .nil pass0 (pa_cons (pv 0) (pa_cons pe_int pa_nil))) pa_nil)) (pe_op op_sub (pe_callB (k_call_len_seq (K := K) rfl) (by rfl) T.z_len (by decide +kernel) (pa_cons (pv 10) pa_nil)) pe_int))))
  (pss_cons (ps_asg (pe_op (k_op_catA (K := K) rfl) (pe_ix (k_ix_list (K := K) rfl) (pv 10) (pv 11) (fun _ _ => rfl)) (pe_tup (pa_cons pe_int pa_nil))) (pg_sub (pv 10) (pv 11) set_list))
  (pss_cons (ps_if (pt_cmpR op_eq (pe_ix (k_ix_list (K := K) rfl) (pv 1) pe_int (fun _ _ => rfl)) pe_int (nomark _))
  (pss_one (ps_asg (pe_op (k_op_catA (K := K) rfl) (pe_ix (k_ix_list (K := K) rfl) (pv 10) (pe_un un_neg pe_int) (fun _ _ => rfl)) (pe_tup (pa_cons pe_int (pa_cons pe_int pa_nil)))) (pg_sub (pv 10) (pe_un un_neg pe_int) set_list)))
  pss_nil)
  (pss_one (ps_ret (pe_and (pe_call (ok_law_refused T) (hr.mono (by decide)) (by rfl) T.m__law_refused T.F_law_refused.kp T.b_law_refused .nil pass0 (pa_cons (pv 10) (pa_cons (pv 11) pa_nil))) (pe_one (pe_call (ok_law_refused T) (hr.mono (by decide)) (by rfl) T.m__law_refused T.F_law_refused.kp T.b_law_refused .nil pass0 (pa_cons (pe_lst pa_nil) (pa_cons (pe_un un_neg pe_int) pa_nil))))))))))))))))))))))))))), ?_⟩)
  obtain ⟨s0, ns, rfl, sq, hn, q⟩ := h
  have rs : Rep K H (.ref s0) ns := rep_list sq (Reps.int_map ns)
  obtain ⟨bs, hbs⟩ : ∃ bs : List Int, bs = [8, 6, 5, 6, 3, 4, 2, 1000, 1000] := ⟨_, rfl⟩
  obtain ⟨c0, hc0⟩ : ∃ c, c = cell ns 0 := ⟨_, rfl⟩
  obtain ⟨d0, a0, l0, u0⟩ : ∃ x, atI (draw c0 bs) (0 : Int) = some x ∧ 0 ≤ x ∧ x < 8 := draw_at (i := 0) (by rw [hbs]; rfl) (by decide)
  obtain ⟨d1, a1, l1, u1⟩ : ∃ x, atI (draw c0 bs) (1 : Int) = some x ∧ 0 ≤ x ∧ x < 6 := draw_at (i := 1) (by rw [hbs]; rfl) (by decide)
  obtain ⟨d2, a2, l2, u2⟩ : ∃ x, atI (draw c0 bs) (2 : Int) = some x ∧ 0 ≤ x ∧ x < 5 := draw_at (i := 2) (by rw [hbs]; rfl) (by decide)
  obtain ⟨d3, a3, l3, u3⟩ : ∃ x, atI (draw c0 bs) (3 : Int) = some x ∧ 0 ≤ x ∧ x < 6 := draw_at (i := 3) (by rw [hbs]; rfl) (by decide)
  obtain ⟨d4, a4, l4, u4⟩ : ∃ x, atI (draw c0 bs) (4 : Int) = some x ∧ 0 ≤ x ∧ x < 3 := draw_at (i := 4) (by rw [hbs]; rfl) (by decide)
  obtain ⟨d5, a5, l5, u5⟩ : ∃ x, atI (draw c0 bs) (5 : Int) = some x ∧ 0 ≤ x ∧ x < 4 := draw_at (i := 5) (by rw [hbs]; rfl) (by decide)
  obtain ⟨d6, a6, l6, u6⟩ : ∃ x, atI (draw c0 bs) (6 : Int) = some x ∧ 0 ≤ x ∧ x < 2 := draw_at (i := 6) (by rw [hbs]; rfl) (by decide)
  obtain ⟨d7, a7, l7, u7⟩ : ∃ x, atI (draw c0 bs) (7 : Int) = some x ∧ 0 ≤ x ∧ x < 1000 := draw_at (i := 7) (by rw [hbs]; rfl) (by decide)
  obtain ⟨d8, a8, l8, u8⟩ : ∃ x, atI (draw c0 bs) (8 : Int) = some x ∧ 0 ≤ x ∧ x < 1000 := draw_at (i := 8) (by rw [hbs]; rfl) (by decide)
  refine q_setL (K := K) (xs := draw c0 bs) ?_ fun ps H1 hps e1 os => ?_
  · rw [hc0, hbs]
    have : EA K (tCons (tC (.int 8)) tNil) [] H [(8:Int)] := by walk_at "ev"
    exact el_c2 (x := cell ns 0) (y := [8, 6, 5, 6, 3, 4, 2, 1000, 1000]) (er_c2 (x := ns) (y := (0 : Int)) (er_var rfl rs (Ex.refl _)) er_int (by decide)) (EL.er (el_lst (by walk_at "ev"))) (by decide)
  refine q_setI (K := K) (x := d2) (by walk_at "ev") fun H2 e2 => ?_
  refine q_setL (K := K) (xs := [1 + d1, 1 + d3]) (el_lst (by walk_at "ev")) fun pc H3 hpc e3 oc => ?_
  have e13 : Ex H1 H3 := e2.trans e3
  refine q_ifJ (K := K) (b := decide (d0 = 1)) (J := fun σ' H' => ∃ size x0 x1 pc, σ' = [some (.ref s0), some (.ref ps), some (.int size), some (.ref pc), none, none, none, none, none, none, none, none] ∧ 0 ≤ size ∧ size ≤ 14 ∧ 1 ≤ x0 ∧ x0 ≤ 20 ∧ 1 ≤ x1 ∧ x1 ≤ 20 ∧ Ex H1 H' ∧ Own K H' pc [x0, x1])
    ?_ (by walk_at "ev") (fun kk hb H4 e4 => ?_) (fun kk hb H4 e4 => kk _ _ ⟨d2, _, _, pc, rfl, by omega, by omega, by omega, by omega, by omega, by omega, e13.trans e4, oc.mono e4⟩)
  rotate_left
  · have e14 := e13.trans e4
    refine q_setI (K := K) (x := d7 % 15) (by walk_at "ev") fun H5 e5 => ?_
    have e15 := e14.trans e5
    refine s_setL (K := K) (xs := [1 + d7 / 15 % 20, 1 + d8 % 20]) (el_lst (by walk_at "ev")) fun pc H6 _ e6 oc => ?_
    exact kk _ _ ⟨d7 % 15, _, _, pc, rfl, by omega, by omega, by omega, by omega, by omega, by omega, e15.trans e6, oc⟩
  rintro σ' HB ⟨size, x0, x1, pc, rfl, hm0, hm1, hx0, hx0', hx1, hx1', e1B, oc⟩
  have eB : Ex H HB := e1.trans e1B
  have y0 : atI [x0, x1] (0 : Int) = some x0 := rfl
  have y1 : atI [x0, x1] (1 : Int) = some x1 := rfl
  refine q_setL (K := K) (xs := settings (cell ns 1) x0 size) (el_c3 (x := cell ns 1) (y := x0) (z := size) (er_c2 (x := ns) (y := (1 : Int)) (er_var rfl rs eB) er_int (by decide)) (by walk_at "ev") (by walk_at "ev") ⟨⟨by omega, by omega⟩, by omega, by omega⟩) fun p1 H5 hp1 e5 o1 => ?_
  have eB5 := eB.trans e5
  refine q_setL (K := K) (xs := settings (cell ns 2) x1 size) (el_c3 (x := cell ns 2) (y := x1) (z := size) (er_c2 (x := ns) (y := (2 : Int)) (er_var rfl rs eB5) er_int (by decide)) (by walk_at "ev") (by walk_at "ev") ⟨⟨by omega, by omega⟩, by omega, by omega⟩) fun p2 H6 hp2 e6 o2 => ?_
  have hB2 : HB p2 = none := fresh_back e5 hp2
  have ne12 : p1 ≠ p2 := o1.ne hp2
  have g1 : Good x0.toNat size.toNat (settings (cell ns 1) x0 size) := settings_good hm0
  have g2 : Good x1.toNat size.toNat (settings (cell ns 2) x1 size) := settings_good hm0
  obtain ⟨ys, hys⟩ : ∃ ys, ys = settings (cell ns 2) x1 size := ⟨_, rfl⟩
  rw [← hys] at g2 o2
  refine q_ifJ (K := K) (b := decide (d5 = 1) && decide (0 < size)) (J := fun σ' H' => ∃ o xs, σ' = [some (.ref s0), some (.ref ps), some (.int size), some (.ref pc), some (.ref p1), some (.ref p2), o, none, none, none, none, none] ∧ Ex HB H' ∧ Own K H' p1 xs ∧ Own K H' p2 ys ∧ Good x0.toNat size.toNat xs)
    ?_ ?_ (fun kk hb H7 e7 => ?_) (fun kk hb H7 e7 => kk _ _ ⟨none, _, rfl, e5.trans (e6.trans e7), o1.mono (e6.trans e7), o2.mono e7, g1⟩)
  rotate_left
  · have := e1B.trans (e5.trans e6)
    walk_at "ev"
  · have hsz : 0 < size := by
      simp at hb
      exact hb.2
    obtain ⟨t, ht, gt⟩ := Z.atI_last (xs := settings (cell ns 1) x0 size) (by rw [g1.1]; omega)
    have htl : List.length t = size.toNat := g1.2 t (List.mem_of_getLast? gt)
    have eB7 := eB5.trans (e6.trans e7)
    refine q_setI (K := K) (x := cell ns 3 % (11 * 10 ^ (19 : Int).toNat) - 10 ^ (19 : Int).toNat) (er_sub (er_mod (er_int1 (er_c2 (x := ns) (y := (3 : Int)) (er_var rfl rs eB7) er_int (by decide))) (by walk_at "ev") (by decide)) (by walk_at "ev")) fun H8 e8 => ?_
    have o18 := o1.mono (e6.trans (e7.trans e8))
    have hc := cut_init (show List Int from t) (by show 0 < List.length t; omega)
    have hc' : (cutD (show List Int from t) none (some (-1))).length = size.toNat - 1 := hc.trans (by show List.length t - 1 = _; omega)
    refine s_put (K := K) (α := Tp Int) (x := (show Tp Int from @List.append Int (cutD (show List Int from t) none (some (-1))) [cell ns 3 % (11 * 10 ^ (19 : Int).toNat) - 10 ^ (19 : Int).toNat])) rfl o18 (er_catT (er_slT (xs := t) (er_ixL (xs := settings (cell ns 1) x0 size) (er_own rfl o18 (Ex.refl _)) (er_neg er_int) ht) eo_none (eo_some (er_neg er_int))) (er_tup (ea_cons (er_vint rfl) ea_nil)) (by
        show (cutD (show List Int from t) none (some (-1))).length + 1 ≤ 100000
        omega)) (fun H9 e9 => (er_neg er_int).evI) (ixN_m1 (by rw [g1.1]; omega)) fun H9 k9 t9 o9 => kk _ _ ⟨_, _, rfl, k9 HB (e5.trans (e6.trans (e7.trans e8))) hp1, o9, ?_, g1.set ?_⟩
    · obtain ⟨ws, hw⟩ := o18.at
      exact ((o2.mono (e7.trans e8)).cut hw ne12).mono (k9 _ cut_ex cut_same)
    · show (cutD (show List Int from t) none (some (-1)) ++ [_]).length = _
      rw [List.length_append, hc']
      simp
      omega
  rintro σ' H7 ⟨o, xs, rfl, eB7, p1o, p2o, g1⟩
  obtain ⟨t, ht, gt⟩ := Z.atI_last (xs := xs) (by rw [g1.1]; omega)
  have htl : List.length t = size.toNat := g1.2 t (List.mem_of_getLast? gt)
  have e17 := e1B.trans eB7
  refine q_ifJ (K := K) (b := !decide (d4 = 0)) (J := fun σ' H' => ∃ ys, σ' = [some (.ref s0), some (.ref ps), some (.int size), some (.ref pc), some (.ref p1), some (.ref p2), o, none, none, none, none, none] ∧ Ex HB H' ∧ Own K H' p1 xs ∧ Own K H' p2 ys ∧ Good x1.toNat size.toNat ys)
    ?_ (by walk_at "ev") (fun kk hb H8 e8 => ?_) (fun kk hb H8 e8 => kk _ _ ⟨_, rfl, eB7.trans e8, p1o.mono e8, p2o.mono e8, g2⟩)
  rotate_left
  · have p2o8 := p2o.mono e8
    refine s_put (K := K) (α := Tp Int) (x := t) rfl p2o8 (er_ixL (xs := xs) (er_own rfl p1o e8) (er_neg er_int) ht) (fun H9 e9 => er_int.evI) (ixN_nn (by decide) (by rw [g2.1]; omega)) fun H9 k9 t9 o9 => kk _ _ ⟨_, rfl, k9 HB (eB7.trans e8) hB2, ?_, o9, g2.set htl⟩
    obtain ⟨ws, hw⟩ := p2o8.at
    exact ((p1o.mono e8).cut hw (Ne.symm ne12)).mono (k9 _ cut_ex cut_same)
  clear hys g2 p2o p1o e17 o1 o2
  clear ys
  rintro σ' H8 ⟨ys, rfl, eB8, o1, o2, g2⟩
  have sx : Small xs := g1.small (by omega) (by omega)
  have sy : Small ys := g2.small (by omega) (by omega)
  have bx : badAt xs = none := g1.bad (by omega)
  have by' : badAt ys = none := g2.bad (by omega)
  have gj := g1.join g2
  have sj : Small (joinD xs ys) := gj.small (by omega) (by omega)
  have bj : badAt (joinD xs ys) = none := gj.bad (by omega)
  refine q_setL (K := K) (xs := xs) (el_list (er_own rfl o1 (Ex.refl _))) fun p3 H9 hp3 e9 o3 => ?_
  have ne13 : p1 ≠ p3 := o1.ne hp3
  have ne23 : p2 ≠ p3 := o2.ne hp3
  refine q_new (new_mk (N := a.C_NotARow) (xs := xs) (er_own rfl o3 (Ex.refl _)) sx bx) fun r l H10 hr hl e10 at_ => ?_
  have ne3l : p3 ≠ l := o3.ne hl
  have hx0 : ∃ t0, atI xs (0 : Int) = some t0 ∧ List.length t0 = size.toNat := by
    obtain ⟨t0, m0, _, h0⟩ := atI_ex (xs := xs) (k := 0) (by rw [g1.1]; omega)
    exact ⟨t0, h0, g1.2 t0 m0⟩
  obtain ⟨t0, h0, l0'⟩ := hx0
  refine q_put (K := K) (α := Tp Int) (x := (show Tp Int from @List.append Int (show List Int from t0) [(1 : Int)])) rfl (o3.mono e10) (er_catT (xs := t0) (ys := [(1 : Int)]) (er_ixL (xs := xs) (er_own rfl o3 e10) er_int h0) (er_tup (ea_cons er_int ea_nil)) (by
      show List.length t0 + 1 ≤ 100000
      omega)) (fun H9 e9 => er_int.evI) (ixN_nn (by decide) (by rw [g1.1]; omega)) fun H11 k11 t11 o11 => ?_
  have c11 : Ex (Z.cut H10 p3) H11 := k11 _ cut_ex cut_same
  obtain ⟨w3, hw3⟩ := (o3.mono e10).at
  have o1b := ((o1.mono (e9.trans e10)).cut hw3 (Ne.symm ne13)).mono c11
  have o2b := ((o2.mono (e9.trans e10)).cut hw3 (Ne.symm ne23)).mono c11
  have atb := (at_.cut hw3 ne3l).mono c11
  have eB11 : Ex HB H11 := k11 HB (eB8.trans (e9.trans e10)) (fresh_back eB8 hp3)
  refine q_app (K := K) (α := Tp Int) (x := t0) rfl o11 (er_ixL (xs := xs) (er_own rfl o1b (Ex.refl _)) er_int h0) (by rw [List.length_set, g1.1]; omega) fun H12 k12 t12 o12 => ?_
  have c12 : Ex (Z.cut H11 p3) H12 := k12 _ cut_ex cut_same
  obtain ⟨w4, hw4⟩ := o11.at
  have o1c := (o1b.cut hw4 (Ne.symm ne13)).mono c12
  have o2c := (o2b.cut hw4 (Ne.symm ne23)).mono c12
  have atc := (atb.cut hw4 ne3l).mono c12
  have eB12 : Ex HB H12 := k12 HB eB11 (fresh_back eB8 hp3)
  clear c11 c12 k11 k12 t11 t12 o11 o12 o1b o2b atb at_ o1 o2 o3
  refine q_ifF (K := K) (et_orU (et_not (et_B (er_stands (ev_var rfl) atc (Ex.refl _) (er_own rfl o1c (Ex.refl _)) sx bx))) (et_not (et_B (er_standsN (new_back (ev_var rfl) atc (Ex.refl _) sx bx) (EL.er (el_rev (er_own rfl o1c (Ex.refl _)))) (small_rev sx) (bad_rev bx))))) rfl fun H13 e13 => ?_
  refine q_new (new_mk (N := a.C_NotARow) (xs := ys) (EL.er (el_list (er_own rfl o2c e13))) sy by') fun r' l' H14 hr' hl' e14 at' => ?_
  have e12 := e13.trans e14
  refine q_ifF (K := K) (et_not (et_B (er_sum rfl rfl rfl rfl (atc.mono e12) at' (o1c.mono e12) (o2c.mono e12) (Ex.refl _) sx sy bx by' sj bj))) rfl fun H15 e15 => ?_
  have e12 := e12.trans e15
  refine q_ifF (K := K) (et_orU (et_not (et_B (er_stands (ev_var rfl) atc e12 (er_own rfl o1c e12) sx bx))) (et_not (et_B (er_stands (ev_var rfl) at' e15 (er_own rfl o2c e12) sy by')))) rfl fun H16 e16 => ?_
  have e12 := e12.trans e16
  have eB16 := eB12.trans e12
  refine q_setL (K := K) (xs := xs ++ ys) (el_add (em_own rfl o1c e12) (em_own rfl o2c e12) (by rw [g1.1, g2.1]; omega)) fun p6 H17 hp6 e17 o6 => ?_
  have eB17 := eB16.trans e17
  have gw := g1.append g2
  obtain ⟨n, hn⟩ : ∃ n, n = x0.toNat + x1.toNat := ⟨_, rfl⟩
  rw [← hn] at gw
  have hwl : ((xs ++ ys).length : Int) = n := by rw [gw.1]
  obtain ⟨k, hk⟩ : ∃ k, k = 1 + cell ns 4 % (((xs ++ ys).length : Int) - 1) := ⟨_, rfl⟩
  have hk1 : 1 ≤ k := by
    have := Int.emod_nonneg (cell ns 4) (b := ((xs ++ ys).length : Int) - 1) (by rw [hwl]; omega)
    omega
  have hk2 : k < n := by
    have := Int.emod_lt_of_pos (cell ns 4) (b := ((xs ++ ys).length : Int) - 1) (by rw [hwl]; omega)
    rw [hwl] at this hk
    omega
  refine q_setI (K := K) (x := k) (by
    rw [hk]
    exact er_add er_int (er_mod (er_int1 (er_c2 (x := ns) (y := (4 : Int)) (er_var rfl rs (eB.trans eB17)) er_int (by decide))) (er_sub (ed_lenL (er_own rfl o6 (Ex.refl _))) er_int) (by rw [hwl]; omega))) fun H18 e18 => ?_
  obtain ⟨j, hj⟩ : ∃ j : Nat, (j : Int) = k := ⟨k.toNat, by omega⟩
  obtain ⟨tj, mj, _, hjt⟩ := atI_ex (xs := xs ++ ys) (k := j) (by rw [gw.1]; omega)
  rw [hj] at hjt
  have ljt : List.length tj = size.toNat := gw.2 tj mj
  have o6' := o6.mono e18
  refine q_put (K := K) (α := Tp Int) (x := (show Tp Int from @List.append Int (show List Int from tj) [(0 : Int)])) (j := j) rfl o6' (er_catT (xs := tj) (ys := [(0 : Int)]) (er_ixL (xs := xs ++ ys) (er_own rfl o6' (Ex.refl _)) (er_vint rfl) hjt) (er_tup (ea_cons er_int ea_nil)) (by
      show List.length tj + 1 ≤ 100000
      omega)) (fun H9 e9 => (er_vint rfl).evI) (by rw [ixN_nn (by omega) (by rw [hwl]; omega)]; congr 1; omega) fun H19 k19 t19 o19 => ?_
  have e1p : Ex H1 H19 := k19 H1 (e1B.trans (eB17.trans e18)) (fresh_back (e1B.trans eB16) hp6)
  have lj1 : List.length (show Tp Int from @List.append Int (show List Int from tj) [(0 : Int)]) = size.toNat + 1 := by
    show (List.append _ _).length = _
    rw [List.append_eq, List.length_append]
    show List.length tj + 1 = _
    omega
  have lset : ∀ t : Tp Int, t ∈ (xs ++ ys).set j (show Tp Int from @List.append Int (show List Int from tj) [(0 : Int)]) → List.length t = size.toNat ∨ List.length t = size.toNat + 1 := fun t ht => by
    rcases List.mem_or_eq_of_mem_set ht with ht | rfl
    · exact .inl (gw.2 t ht)
    · exact .inr lj1
  refine q_ifJ (K := K) (b := decide (d6 = 1)) (J := fun σ' H' => ∃ zs, σ' = [some (.ref s0), some (.ref ps), some (.int size), some (.ref pc), some (.ref p1), some (.ref p2), o, some (.ref p3), some (.ref r), some (.ref r'), some (.ref p6), some (.int k)] ∧ Own K H' p6 zs ∧ Small zs ∧ badAt zs = some k)
    ?_ (by walk_at "ev") (fun kk hb H20 e20 => ?_) (fun kk hb H20 e20 => kk _ _ ⟨_, rfl, o19.mono e20, ?_, ?_⟩)
  rotate_left
  · obtain ⟨tz, hz, gz⟩ := Z.atI_last (xs := (xs ++ ys).set j (show Tp Int from @List.append Int (show List Int from tj) [(0 : Int)])) (by rw [List.length_set, gw.1]; omega)
    have lz := lset tz (List.mem_of_getLast? gz)
    have lz' : List.length (show Tp Int from @List.append Int (show List Int from tz) [(0 : Int), 0]) = List.length tz + 2 := by
      show (List.append _ _).length = _
      rw [List.append_eq, List.length_append]
      rfl
    refine s_put (K := K) (α := Tp Int) (x := (show Tp Int from @List.append Int (show List Int from tz) [(0 : Int), 0])) (j := n - 1) rfl (o19.mono e20) (er_catT (xs := tz) (ys := [(0 : Int), 0]) (er_ixL (er_own rfl o19 e20) (er_neg er_int) hz) (er_tup (ea_cons er_int (ea_cons er_int ea_nil))) (by
      show List.length tz + 2 ≤ 100000
      omega)) (fun H9 e9 => (er_neg er_int).evI) (by rw [ixN_m1 (by rw [List.length_set, gw.1]; omega), List.length_set, gw.1]) fun H21 k21 t21 o21 => kk _ _ ⟨_, rfl, o21, ⟨by rw [List.length_set, List.length_set, gw.1]; omega, fun t ht => ?_⟩, ?_⟩
    · rcases List.mem_or_eq_of_mem_set ht with ht | rfl
      · have := lset t ht
        omega
      · rw [lz']
        omega
    · rw [← hj]
      exact wrong2 gw (by omega) (by omega) (by rw [lj1]; omega) (by rw [lz']; omega)
  · exact ⟨by rw [List.length_set, gw.1]; omega, fun t ht => by
      have := lset t ht
      omega⟩
  · rw [← hj]
    exact wrong1 gw (by omega) (by omega) (by rw [lj1]; omega)
  rintro σ' H20 ⟨zs, rfl, o20, sz, bz⟩
  refine s_ret_and (er_refused (er_own rfl o20 (Ex.refl _)) (er_vint rfl) sz bz H20 (Ex.refl _)) (fun H21 => er_refused (xs := []) (k := -1) (EL.er (el_lst ea_nil)) (er_neg er_int) ⟨by decide, fun t ht => by cases ht⟩ rfl H21 (Ex.refl _)) q
end
set_option Elab.async false
set_option linter.all false
set_option maxRecDepth 100000
open PySem L2 Z
theorem fin {P : Program} {w : World} {K : PySem.W.Frag} {mg : Str → Option Value} {fa : Addr} (k : Nat) (law : ∀ {base : Heap} {a : Ad}, Txt P K mg a → FnOk P w K mg base CX0 k a.f_law a.d_law ["script"] (spLaw K)) (hfa : mg "law" = some (.ref fa)) (T : ∃ a, Txt P K mg a) :
    ∃ fd : FuncData, (∀ (s : Shared) (v : Value), BindsTo s fd ⟨[v], []⟩ [("script", v)]) ∧ ∀ base : Heap, K.In base → base.Ns mainGlobals mg → FnOk P w K mg base CX0 k fa fd ["script"] (spLaw K) := by
  obtain ⟨a, T⟩ := T
  have e := hfa.symm.trans T.m_law
  cases e
  obtain ⟨oc, od, kV, doc, pm, an, cdv, ct, osl, e, _, _⟩ := T.F_law.ex
  exact ⟨a.d_law, fun s v => by rw [e]; exact .of_eq rfl, fun base _ _ => law T⟩
end Y
open PySem PySem.W PyProof.Rows in
set_option maxRecDepth 100000 in
set_option maxHeartbeats 0 in
theorem PySem.Challenge.cw_everystepstands_k96_rows_joined_and_turn_holds : PySem.Challenge.rw_everystepstands_k96_rows_joined_and_turn.Holds := by
  w_on; o_law; k_head; (case hw => w_witness2)
  k_fill
  refine Z.walk (k := 7) (l := PySem.Challenge.rw_everystepstands_k96_rows_joined_and_turn) rfl (by decide) (by decide) rfl (fun w h Y => PySem.W.kIn_of Y) ?F
  case F =>
    intro w mg fa h KX G hmg
    refine' Y.fin 7 (fun T => Y.ok_law T) hmg ⟨_, Y.all_mk KX G ?z_ValueError ?z_bool ?z_enumerate ?z_int ?z_isinstance ?z_iter ?z_len ?z_list ?z_range ?z_super ?z_tuple ?m_StepError ?hg_StepError ?hk_StepError ?hs_StepError ?hd_StepError ?ha_StepError ?hm_StepError ?m_NotARow ?hg_NotARow ?hk_NotARow ?hs_NotARow ?hd_NotARow ?ha_NotARow ?hm_NotARow ?x_NotARoww_initw ?rv_NotARoww_initw ?i_NotARoww_initw ?l_NotARoww_initw ?cd_NotARoww_initw ?kc_NotARoww_initw ?kv_NotARoww_initw ?kf_NotARoww_initw ?cc_NotARoww_initw ?kp_NotARoww_initw ?ti_NotARoww_initw ?ic_NotARoww_initw ?sa_NotARoww_initw ?ty_NotARoww_initw ?ke_NotARoww_initw ?su_NotARoww_initw ?ve_NotARoww_initw ?mr_NotARoww_initw ?nf_NotARow_index ?m_RowsApart ?hg_RowsApart ?hk_RowsApart ?hs_RowsApart ?hd_RowsApart ?ha_RowsApart ?hm_RowsApart ?x_RowsApartw_initw ?rv_RowsApartw_initw ?i_RowsApartw_initw ?l_RowsApartw_initw ?cd_RowsApartw_initw ?kc_RowsApartw_initw ?kv_RowsApartw_initw ?kf_RowsApartw_initw ?cc_RowsApartw_initw ?kp_RowsApartw_initw ?ti_RowsApartw_initw ?ic_RowsApartw_initw ?sa_RowsApartw_initw ?ty_RowsApartw_initw ?ke_RowsApartw_initw ?su_RowsApartw_initw ?ve_RowsApartw_initw ?mr_RowsApartw_initw ?nf_RowsApart_first ?nf_RowsApart_second ?m_Row ?pg_Row ?hd_Row ?po_Row ?sa_Row ?ha_Row ?hm_Row ?na_Row_settings ?me_Roww_initw ?l_Roww_initw ?c_Roww_initw ?k_Roww_initw ?fn_Roww_initw ?mk_Row ?kc_Row ?pa_Row_start ?pr_Row_start ?pt_Row_start ?pk_Row_start ?l_Row_start ?c_Row_start ?k_Row_start ?pa_Row_goal ?pr_Row_goal ?pt_Row_goal ?pk_Row_goal ?l_Row_goal ?c_Row_goal ?k_Row_goal ?pa_Row_steps ?pr_Row_steps ?pt_Row_steps ?pk_Row_steps ?l_Row_steps ?c_Row_steps ?k_Row_steps ?me_Row_back ?l_Row_back ?c_Row_back ?k_Row_back ?fn_Row_back ?me_Roww_addw ?l_Roww_addw ?c_Roww_addw ?k_Roww_addw ?fn_Roww_addw ?sf_Row ?me_Roww_iterw ?l_Roww_iterw ?c_Roww_iterw ?k_Roww_iterw ?fn_Roww_iterw ?m__law_cell ?l_law_cell ?c_law_cell ?k_law_cell ?m__law_draw ?l_law_draw ?c_law_draw ?k_law_draw ?m__law_settings ?l_law_settings ?c_law_settings ?k_law_settings ?m__law_equal ?l_law_equal ?c_law_equal ?k_law_equal ?m__law_stands ?l_law_stands ?c_law_stands ?k_law_stands ?m__law_refused ?l_law_refused ?c_law_refused ?k_law_refused ?m__law_sum_stands ?l_law_sum_stands ?c_law_sum_stands ?k_law_sum_stands ?m_law ?l_law ?c_law ?k_law ?hcn ?hct ?hop ?htop ?kit_Row_Row ?kit_NotARow_StepError ?kit_NotARow_ValueError ?kit_NotARow_RowsApart ?kit_RowsApart_StepError ?kit_RowsApart_NotARow ?exm_NotARow_NotARow ?exm_RowsApart_RowsApart ?exm_NotARow_RowsApart⟩
    (case z_ValueError => k_is)
    (case z_bool => k_is)
    (case z_enumerate => k_is)
    (case z_int => k_is)
    (case z_isinstance => k_is)
    (case z_iter => k_is)
    (case z_len => k_is)
    (case z_list => k_is)
    (case z_range => k_is)
    (case z_super => k_is)
    (case z_tuple => k_is)
    (case m_StepError => k_is)
    (case hg_StepError => k_is)
    (case hk_StepError => k_is)
    (case hs_StepError => k_is)
    (case hd_StepError => k_is)
    (case ha_StepError => k_is)
    (case hm_StepError => k_is)
    (case m_NotARow => k_is)
    (case hg_NotARow => k_is)
    (case hk_NotARow => k_is)
    (case hs_NotARow => k_is)
    (case hd_NotARow => k_is)
    (case ha_NotARow => k_is)
    (case hm_NotARow => k_is)
    (case x_NotARoww_initw => k_is)
    (case rv_NotARoww_initw => kernel_rfl)
    (case i_NotARoww_initw => k_is)
    (case l_NotARoww_initw => k_is)
    (case cd_NotARoww_initw => k_is)
    (case kc_NotARoww_initw => k_is)
    (case kv_NotARoww_initw => rfl)
    (case kf_NotARoww_initw => decide +kernel)
    (case cc_NotARoww_initw => k_is)
    (case kp_NotARoww_initw => k_is)
    (case ti_NotARoww_initw => k_is)
    (case ic_NotARoww_initw => k_is)
    (case sa_NotARoww_initw => k_is)
    (case ty_NotARoww_initw => k_is)
    (case ke_NotARoww_initw => k_is)
    (case su_NotARoww_initw => kernel_rfl)
    (case ve_NotARoww_initw => k_is)
    (case mr_NotARoww_initw => k_is)
    (case nf_NotARow_index => k_is)
    (case m_RowsApart => k_is)
    (case hg_RowsApart => k_is)
    (case hk_RowsApart => k_is)
    (case hs_RowsApart => k_is)
    (case hd_RowsApart => k_is)
    (case ha_RowsApart => k_is)
    (case hm_RowsApart => k_is)
    (case x_RowsApartw_initw => k_is)
    (case rv_RowsApartw_initw => kernel_rfl)
    (case i_RowsApartw_initw => k_is)
    (case l_RowsApartw_initw => k_is)
    (case cd_RowsApartw_initw => k_is)
    (case kc_RowsApartw_initw => k_is)
    (case kv_RowsApartw_initw => rfl)
    (case kf_RowsApartw_initw => decide +kernel)
    (case cc_RowsApartw_initw => k_is)
    (case kp_RowsApartw_initw => k_is)
    (case ti_RowsApartw_initw => k_is)
    (case ic_RowsApartw_initw => k_is)
    (case sa_RowsApartw_initw => k_is)
    (case ty_RowsApartw_initw => k_is)
    (case ke_RowsApartw_initw => k_is)
    (case su_RowsApartw_initw => kernel_rfl)
    (case ve_RowsApartw_initw => k_is)
    (case mr_RowsApartw_initw => k_is)
    (case nf_RowsApart_first => k_is)
    (case nf_RowsApart_second => k_is)
    (case m_Row => k_is)
    (case pg_Row => k_is)
    (case hd_Row => k_is)
    (case po_Row => k_is)
    (case sa_Row => k_is)
    (case ha_Row => k_is)
    (case hm_Row => k_is)
    (case na_Row_settings => k_is)
    (case me_Roww_initw => k_is)
    (case l_Roww_initw => k_is)
    (case c_Roww_initw => k_is)
    (case k_Roww_initw => k_is)
    (case fn_Roww_initw => k_is)
    (case mk_Row => k_is)
    (case kc_Row => k_is)
    (case pa_Row_start => k_is)
    (case pr_Row_start => k_is)
    (case pt_Row_start => k_is)
    (case pk_Row_start => k_is)
    (case l_Row_start => k_is)
    (case c_Row_start => k_is)
    (case k_Row_start => k_is)
    (case pa_Row_goal => k_is)
    (case pr_Row_goal => k_is)
    (case pt_Row_goal => k_is)
    (case pk_Row_goal => k_is)
    (case l_Row_goal => k_is)
    (case c_Row_goal => k_is)
    (case k_Row_goal => k_is)
    (case pa_Row_steps => k_is)
    (case pr_Row_steps => k_is)
    (case pt_Row_steps => k_is)
    (case pk_Row_steps => k_is)
    (case l_Row_steps => k_is)
    (case c_Row_steps => k_is)
    (case k_Row_steps => k_is)
    (case me_Row_back => k_is)
    (case l_Row_back => k_is)
    (case c_Row_back => k_is)
    (case k_Row_back => k_is)
    (case fn_Row_back => k_is)
    (case me_Roww_addw => k_is)
    (case l_Roww_addw => k_is)
    (case c_Roww_addw => k_is)
    (case k_Roww_addw => k_is)
    (case fn_Roww_addw => k_is)
    (case sf_Row => k_is)
    (case me_Roww_iterw => k_is)
    (case l_Roww_iterw => k_is)
    (case c_Roww_iterw => k_is)
    (case k_Roww_iterw => k_is)
    (case fn_Roww_iterw => k_is)
    (case m__law_cell => k_is)
    (case l_law_cell => k_is)
    (case c_law_cell => k_is)
    (case k_law_cell => k_is)
    (case m__law_draw => k_is)
    (case l_law_draw => k_is)
    (case c_law_draw => k_is)
    (case k_law_draw => k_is)
    (case m__law_settings => k_is)
    (case l_law_settings => k_is)
    (case c_law_settings => k_is)
    (case k_law_settings => k_is)
    (case m__law_equal => k_is)
    (case l_law_equal => k_is)
    (case c_law_equal => k_is)
    (case k_law_equal => k_is)
    (case m__law_stands => k_is)
    (case l_law_stands => k_is)
    (case c_law_stands => k_is)
    (case k_law_stands => k_is)
    (case m__law_refused => k_is)
    (case l_law_refused => k_is)
    (case c_law_refused => k_is)
    (case k_law_refused => k_is)
    (case m__law_sum_stands => k_is)
    (case l_law_sum_stands => k_is)
    (case c_law_sum_stands => k_is)
    (case k_law_sum_stands => k_is)
    (case m_law => k_is)
    (case l_law => k_is)
    (case c_law => k_is)
    (case k_law => k_is)
    (case hcn => k_is)
    (case hct => k_is)
    (case hop => k_is)
    (case htop => decide +kernel)
    (case kit_Row_Row => kernel_rfl)
    (case kit_NotARow_StepError => kernel_rfl)
    (case kit_NotARow_ValueError => kernel_rfl)
    (case kit_NotARow_RowsApart => kernel_rfl)
    (case kit_RowsApart_StepError => kernel_rfl)
    (case kit_RowsApart_NotARow => kernel_rfl)
    (case exm_NotARow_NotARow => kernel_rfl)
    (case exm_RowsApart_RowsApart => kernel_rfl)
    (case exm_NotARow_RowsApart => kernel_rfl)

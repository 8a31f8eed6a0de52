import PyProof.Rows.All
import Wide.All
import OpenK.AllK
import Wide.FinOn
import HandS.ForMost
import HandS.Evl
import HandS.TupAny
import HandS.Style
import HandS.Base
import HandS.Call
import HandS.Exc
import HandS.ExcOwn
import HandS.IsInst
import HandS.Property
import HandS.ForExc
import HandS.ExcInit
import HandS.ExcField
import HandS.ExcIs
import KE.KExcSuper
import KE.KSuper
import HandS.IterNext
import KE.KExcIs
import KE.KOwnIter
import OpenK.KMeth
import HandS.More
import PyProof.FactsSeq
import HandS.SortInts
import HandS.Iter
import KE.GoesMore
import PyProof.EnumMake
import HandS.TupSets
import HandS.Deep
import HandS.Conv
import HandS.TupMul
import HandS.SetFor
import HandS.Dict
import HandS.SetKeys
import HandS.ClsMeth
import PyProof.ZipIter
import HandS.Zip
import HandS.TryMany
import PySem.Challenge.RW_everystepstands_k93_any_order_of_letters
set_option Elab.async false
set_option linter.all false
set_option maxRecDepth 100000
set_option maxHeartbeats 2000000
/-! Z: data (what a value stands for, by PyData), what evaluates to what datum. -/
namespace Z
open PySem L2
open Evl (Ex)
/-! ### what a value stands for: lists that are read, tuples that are tracked outright -/
mutual
inductive Dq (K : PySem.W.Frag) (H : Hp) : V → PyData → Prop
  | non : Dq K H .non .none
  | bl (b : Bool) : Dq K H (.bl b) (.bool b)
  | int (i : Int) : Dq K H (.int i) (.int i)
  | str (x : Str) : Dq K H (.str x) (.str x)
  | lst {a : Addr} {vs : List V} {ds : List PyData} (s : SqL K H a vs) (h : DqAll K H vs ds) : Dq K H (.ref a) (.list ds)
  | tup {a : Addr} {vs : List V} {ds : List PyData} (s : H a = some (.tup vs)) (h : DqAll K H vs ds) : Dq K H (.ref a) (.tuple ds)
  | obj (a : Addr) : Dq K H (.ref a) (.dict [(.int (a : Nat), .none)])
inductive DqAll (K : PySem.W.Frag) (H : Hp) : List V → List PyData → Prop
  | nil : DqAll K H [] []
  | cons {v : V} {vs : List V} {d : PyData} {ds : List PyData} (h : Dq K H v d) (t : DqAll K H vs ds) : DqAll K H (v :: vs) (d :: ds)
end
mutual
theorem dq_dp {K : PySem.W.Frag} {H : Hp} : ∀ (d : PyData) (v : V), d.canLay0 = true → Dq K H v d → Dp K H v d
  | .none, _, _, h => by cases h; exact .non
  | .bool b, _, _, h => by cases h; exact .bl b
  | .int i, _, _, h => by cases h; exact .int i
  | .str x, _, _, h => by cases h; exact .str x
  | .list ds, _, c, h => by
    cases h with
    | lst hs ha => exact .lst hs (dqa_dp ds _ (by unfold PyData.canLay0 at c; exact c) ha)
  | .tuple ds, _, c, h => by
    cases h with
    | tup hs ha => exact .tup (SqT.of hs) (dqa_dp ds _ (by unfold PyData.canLay0 at c; exact c) ha)
  | .dict _, _, c, h => by unfold PyData.canLay0 at c; cases c
theorem dqa_dp {K : PySem.W.Frag} {H : Hp} : ∀ (ds : List PyData) (vs : List V), PyData.canLayAll0 ds = true → DqAll K H vs ds → DpAll K H vs ds
  | [], _, _, h => by cases h; exact .nil
  | d :: ds, _, c, h => by
    have c' : d.canLay0 = true ∧ PyData.canLayAll0 ds = true := by
      unfold PyData.canLayAll0 at c
      exact Bool.and_eq_true_iff.mp c
    cases h with
    | cons a b => exact .cons (dq_dp d _ c'.1 a) (dqa_dp ds _ c'.2 b)
end
/-! ### data that stand in the heap stay when it grows -/
mutual
theorem dp_mono {K : PySem.W.Frag} {G H : Hp} (e : Ex G H) : ∀ (d : PyData) (v : V), Dq K G v d → Dq K H v d
  | .none, _, h => by cases h; exact .non
  | .bool b, _, h => by cases h; exact .bl b
  | .int i, _, h => by cases h; exact .int i
  | .str x, _, h => by cases h; exact .str x
  | .list ds, _, h => by
    cases h with
    | lst hs ha => exact .lst (Evl.ex_l e hs) (dpa_mono e ds _ ha)
  | .tuple ds, _, h => by
    cases h with
    | tup hs ha => exact .tup (e _ _ hs) (dpa_mono e ds _ ha)
  | .dict _, _, h => by cases h; exact .obj _
theorem dpa_mono {K : PySem.W.Frag} {G H : Hp} (e : Ex G H) : ∀ (ds : List PyData) (vs : List V), DqAll K G vs ds → DqAll K H vs ds
  | [], _, h => by cases h; exact .nil
  | d :: ds, _, h => by
    cases h with
    | cons a b => exact .cons (dp_mono e d _ a) (dpa_mono e ds _ b)
end
mutual
def immut : PyData → Bool
  | .list _ => false
  | .tuple ds => immuts ds
  | _ => true
def immuts : List PyData → Bool
  | [] => true
  | d :: ds => immut d && immuts ds
end
/-- the tuples of G stand in H -/
def Tups (G H : Hp) : Prop := ∀ a xs, G a = some (.tup xs) → H a = some (.tup xs)
mutual
theorem dp_imm {K : PySem.W.Frag} {G H : Hp} (e : Tups G H) : ∀ (d : PyData) (v : V), immut d = true → Dq K G v d → Dq K H v d
  | .none, _, _, h => by cases h; exact .non
  | .bool b, _, _, h => by cases h; exact .bl b
  | .int i, _, _, h => by cases h; exact .int i
  | .str x, _, _, h => by cases h; exact .str x
  | .list ds, _, i, h => by cases i
  | .tuple ds, _, i, h => by
    cases h with
    | tup hs ha => exact .tup (e _ _ hs) (dpa_imm e ds _ i ha)
  | .dict _, _, _, h => by cases h; exact .obj _
theorem dpa_imm {K : PySem.W.Frag} {G H : Hp} (e : Tups G H) : ∀ (ds : List PyData) (vs : List V), immuts ds = true → DqAll K G vs ds → DqAll K H vs ds
  | [], _, _, h => by cases h; exact .nil
  | d :: ds, _, i, h => by
    have i' : immut d = true ∧ immuts ds = true := by simpa [immuts] using i
    cases h with
    | cons a b => exact .cons (dp_imm e d _ i'.1 a) (dpa_imm e ds _ i'.2 b)
end
theorem Tups.ex {G H : Hp} (e : Ex G H) : Tups G H := fun _ _ h => e _ _ h
theorem Tups.trans {G H J : Hp} (e : Tups G H) (f : Tups H J) : Tups G J := fun _ _ h => f _ _ (e _ _ h)
theorem Tups.upd {H : Hp} {p : Addr} {xs : List V} {o : HO} (h : H p = some (.lst xs)) : Tups H (upd H p o) := fun a ys r => by
  rw [upd_ne (fun z => by rw [z, h] at r; cases r)]
  exact r
theorem Tups.del {H : Hp} {p : Addr} {xs : List V} (h : H p = some (.lst xs)) : Tups H (fun b => if b = p then none else H b) := fun a ys r => by
  show (if a = p then none else H a) = _
  rw [if_neg (fun z => by rw [z, h] at r; cases r)]
  exact r
theorem Dq.mono {K : PySem.W.Frag} {G H : Hp} {d : PyData} {v : V} (e : Ex G H) (h : Dq K G v d) : Dq K H v d := dp_mono e d v h
/-! ### types as data -/
/-- a tuple of any length -/
def Tp (α : Type) := List α
class Dat (α : Type) where
  enc : α → PyData
class Flat (α : Type) [Dat α] : Prop where
  imm : ∀ x : α, immut (Dat.enc x) = true
/-- data whose equality is Python's -/
class DatEq (α : Type) [Dat α] [DecidableEq α] : Prop where
  lay : ∀ x : α, (Dat.enc x).canLay0 = true
  eqv : ∀ x y : α, PyData.eqv (Dat.enc x) (Dat.enc y) = decide (x = y)
class Deep (α : Type) [Dat α] (n : outParam Nat) : Prop where
  dep : ∀ x : α, (Dat.enc x).depth ≤ n
open Dat
/-- an object, by its address -/
structure Ob where
  a : Nat
instance : Dat Ob := ⟨fun x => .dict [(.int (x.a : Nat), .none)]⟩
instance : Dat Unit := ⟨fun _ => .none⟩
instance : Dat Int := ⟨.int⟩
instance : Dat Bool := ⟨.bool⟩
instance : Dat Str := ⟨.str⟩
instance {α} [Dat α] : Dat (List α) := ⟨fun xs => .list (xs.map enc)⟩
instance {α} [Dat α] : Dat (Tp α) := ⟨fun xs => .tuple (List.map enc xs)⟩
instance {α β} [Dat α] [Dat β] : Dat (α × β) := ⟨fun x => .tuple [enc x.1, enc x.2]⟩
instance {α} [DecidableEq α] : DecidableEq (Tp α) := inferInstanceAs (DecidableEq (List α))
instance : Flat Ob := ⟨fun _ => rfl⟩
instance : Flat Unit := ⟨fun _ => rfl⟩
instance : Flat Int := ⟨fun _ => rfl⟩
instance : Flat Bool := ⟨fun _ => rfl⟩
instance : Flat Str := ⟨fun _ => rfl⟩
theorem immuts_map {α} [Dat α] [Flat α] : ∀ xs : List α, immuts (xs.map enc) = true
  | [] => rfl
  | x :: xs => by
    show (immut (enc x) && immuts (xs.map enc)) = true
    rw [Flat.imm, immuts_map xs] <;> rfl
instance {α} [Dat α] [Flat α] : Flat (Tp α) := ⟨fun xs => immuts_map (α := α) xs⟩
instance {α β} [Dat α] [Dat β] [Flat α] [Flat β] : Flat (α × β) := ⟨fun x => by
  show (immut (enc x.1) && (immut (enc x.2) && true)) = true
  rw [Flat.imm, Flat.imm] <;> rfl⟩
abbrev Rep (K : PySem.W.Frag) {α : Type} [Dat α] (H : Hp) (v : V) (x : α) : Prop := Dq K H v (enc x)
abbrev Reps (K : PySem.W.Frag) {α : Type} [Dat α] (H : Hp) (vs : List V) (xs : List α) : Prop := DqAll K H vs (xs.map enc)
section
variable {K : PySem.W.Frag} {G H : Hp} {v : V} {α β : Type} [Dat α] [Dat β]
theorem Reps.mono {vs : List V} {xs : List α} (e : Ex G H) (h : Reps K G vs xs) : Reps K H vs xs := dpa_mono e _ _ h
theorem Dq.imm [Flat α] {x : α} (e : Tups G H) (h : Rep K G v x) : Rep K H v x := dp_imm e _ _ (Flat.imm x) h
theorem Reps.imm [Flat α] {vs : List V} {xs : List α} (e : Tups G H) (h : Reps K G vs xs) : Reps K H vs xs := dpa_imm e _ _ (immuts_map xs) h
theorem Rep.int {i : Int} (h : Rep K H v i) : v = .int i := by
  have h' : Dq K H v (.int i) := h
  cases h'; rfl
theorem Rep.bool {b : Bool} (h : Rep K H v b) : v = .bl b := by
  have h' : Dq K H v (.bool b) := h
  cases h'; rfl
theorem Rep.str {b : Str} (h : Rep K H v b) : v = .str b := by
  have h' : Dq K H v (.str b) := h
  cases h'; rfl
theorem Rep.unit {b : Unit} (h : Rep K H v b) : v = .non := by
  have h' : Dq K H v .none := h
  cases h'; rfl
theorem Rep.obj {x : Ob} (h : Rep K H v x) : v = .ref x.a := by
  obtain ⟨a⟩ := x
  have h' : Dq K H v (.dict [(.int (a : Nat), .none)]) := h
  generalize e : (PyData.dict [(.int (a : Nat), .none)]) = d at h'
  cases h' with
  | obj b =>
    injection e with e
    injection e with e _
    injection e with e _
    injection e with e
    have e : a = b := Int.ofNat.inj e
    rw [e]
  | _ => cases e
theorem rep_obj (x : Ob) : Rep K H (.ref x.a) x := Dq.obj x.a
theorem rep_int (i : Int) : Rep K H (.int i) i := Dq.int i
theorem rep_bool (b : Bool) : Rep K H (.bl b) b := Dq.bl b
theorem rep_str (b : Str) : Rep K H (.str b) b := Dq.str b
theorem rep_unit : Rep K H .non () := Dq.non
theorem Rep.list {xs : List α} (h : Rep K H v xs) : ∃ a vs, v = .ref a ∧ SqL K H a vs ∧ Reps K H vs xs := by
  have h' : Dq K H v (.list (xs.map enc)) := h
  cases h' with
  | lst hs ha => exact ⟨_, _, rfl, hs, ha⟩
theorem Rep.tupP {xs : Tp α} (h : Rep K H v xs) : ∃ a vs, v = .ref a ∧ H a = some (.tup vs) ∧ Reps K H vs (α := α) xs := by
  have h' : Dq K H v (.tuple (List.map enc xs)) := h
  cases h' with
  | tup hs ha => exact ⟨_, _, rfl, hs, ha⟩
theorem Rep.tup {xs : Tp α} (h : Rep K H v xs) : ∃ a vs, v = .ref a ∧ SqT K H a vs ∧ Reps K H vs (α := α) xs := by
  obtain ⟨a, vs, e, s, r⟩ := Rep.tupP h
  exact ⟨a, vs, e, SqT.of s, r⟩
theorem rep_list {xs : List α} {a : Addr} {vs : List V} (h : SqL K H a vs) (r : Reps K H vs xs) : Rep K H (.ref a) xs := Dq.lst h r
theorem rep_tup {xs : Tp α} {a : Addr} {vs : List V} (h : H a = some (.tup vs)) (r : Reps K H vs (α := α) xs) : Rep K H (.ref a) xs := Dq.tup h r
theorem Rep.pair {x : α × β} (h : Rep K H v x) : ∃ a u w, v = .ref a ∧ SqT K H a [u, w] ∧ Rep K H u x.1 ∧ Rep K H w x.2 := by
  have h' : Dq K H v (.tuple [enc x.1, enc x.2]) := h
  cases h' with
  | tup hs ha =>
    cases ha with
    | cons a1 a2 =>
      cases a2 with
      | cons a2 a3 =>
        cases a3
        exact ⟨_, _, _, rfl, SqT.of hs, a1, a2⟩
theorem rep_pair {x : α} {y : β} {a : Addr} {u w : V} (h : H a = some (.tup [u, w])) (r : Rep K H u x) (s : Rep K H w y) : Rep K H (.ref a) (x, y) := Dq.tup h (.cons r (.cons s .nil))
theorem DqAll.len {vs : List V} {ds : List PyData} (h : DqAll K H vs ds) : vs.length = ds.length := by
  induction ds generalizing vs with
  | nil => cases h; rfl
  | cons d ds ih =>
    cases h with
    | cons a b => simp [ih b]
theorem Reps.len {vs : List V} {xs : List α} (h : Reps K H vs xs) : vs.length = xs.length := by
  have e := DqAll.len h
  rw [List.length_map] at e
  exact e
theorem reps_nil : Reps K H [] ([] : List α) := DqAll.nil
theorem Reps.cons {v : V} {vs : List V} {x : α} {xs : List α} (h : Rep K H v x) (r : Reps K H vs xs) : Reps K H (v :: vs) (x :: xs) := DqAll.cons h r
theorem Reps.inv {vs : List V} {x : α} {xs : List α} (h : Reps K H vs (x :: xs)) : ∃ v ws, vs = v :: ws ∧ Rep K H v x ∧ Reps K H ws xs := by
  have h' : DqAll K H vs (enc x :: xs.map enc) := h
  cases h' with
  | cons a b => exact ⟨_, _, rfl, a, b⟩
theorem Reps.nilI {vs : List V} (h : Reps K H vs ([] : List α)) : vs = [] := by
  have h' : DqAll K H vs [] := h
  cases h'; rfl
theorem Reps.append : ∀ {xs ys : List α} {vs ws : List V}, Reps K H vs xs → Reps K H ws ys → Reps K H (vs ++ ws) (xs ++ ys)
  | [], _, _, _, h, r => by
    obtain rfl := Reps.nilI h
    exact r
  | x :: xs, ys, vs, ws, h, r => by
    obtain ⟨v, us, rfl, h1, h2⟩ := Reps.inv h
    exact Reps.cons h1 (Reps.append h2 r)
theorem Reps.get : ∀ {xs : List α} {vs : List V} {i : Nat} {x : α}, Reps K H vs xs → xs[i]? = some x → ∃ v, vs[i]? = some v ∧ Rep K H v x
  | [], _, _, _, _, e => by simp at e
  | x :: xs, vs, 0, y, h, e => by
    obtain ⟨v, us, rfl, h1, h2⟩ := Reps.inv h
    simp at e
    subst e
    exact ⟨v, rfl, h1⟩
  | x :: xs, vs, i + 1, y, h, e => by
    obtain ⟨v, us, rfl, h1, h2⟩ := Reps.inv h
    simpa using Reps.get h2 (by simpa using e)
theorem Reps.got : ∀ {xs : List α} {vs : List V} {i : Nat} {v : V}, Reps K H vs xs → vs[i]? = some v → ∃ x, xs[i]? = some x ∧ Rep K H v x
  | [], vs, _, _, h, e => by
    obtain rfl := Reps.nilI h
    simp at e
  | x :: xs, vs, 0, y, h, e => by
    obtain ⟨v, us, rfl, h1, h2⟩ := Reps.inv h
    simp at e
    subst e
    exact ⟨x, rfl, h1⟩
  | x :: xs, vs, i + 1, y, h, e => by
    obtain ⟨v, us, rfl, h1, h2⟩ := Reps.inv h
    simpa using Reps.got h2 (by simpa using e)
theorem Reps.take : ∀ {xs : List α} {vs : List V} (n : Nat), Reps K H vs xs → Reps K H (vs.take n) (xs.take n)
  | xs, vs, 0, h => by simpa using reps_nil
  | [], vs, n + 1, h => by
    obtain rfl := Reps.nilI h
    exact reps_nil
  | x :: xs, vs, n + 1, h => by
    obtain ⟨v, us, rfl, h1, h2⟩ := Reps.inv h
    exact Reps.cons h1 (Reps.take n h2)
theorem Reps.drop : ∀ {xs : List α} {vs : List V} (n : Nat), Reps K H vs xs → Reps K H (vs.drop n) (xs.drop n)
  | xs, vs, 0, h => by simpa using h
  | [], vs, n + 1, h => by
    obtain rfl := Reps.nilI h
    exact reps_nil
  | x :: xs, vs, n + 1, h => by
    obtain ⟨v, us, rfl, h1, h2⟩ := Reps.inv h
    exact Reps.drop n h2
theorem Reps.set : ∀ {xs : List α} {vs : List V} {v : V} {x : α} (n : Nat), Reps K H vs xs → Rep K H v x → Reps K H (vs.set n v) (xs.set n x)
  | [], vs, v, x, n, h, r => by
    obtain rfl := Reps.nilI h
    exact reps_nil
  | y :: xs, vs, v, x, 0, h, r => by
    obtain ⟨v', us, rfl, h1, h2⟩ := Reps.inv h
    exact Reps.cons r h2
  | y :: xs, vs, v, x, n + 1, h, r => by
    obtain ⟨v', us, rfl, h1, h2⟩ := Reps.inv h
    exact Reps.cons h1 (Reps.set n h2 r)
theorem Reps.reverse : ∀ {xs : List α} {vs : List V}, Reps K H vs xs → Reps K H vs.reverse xs.reverse
  | [], vs, h => by
    obtain rfl := Reps.nilI h
    exact reps_nil
  | x :: xs, vs, h => by
    obtain ⟨v, us, rfl, h1, h2⟩ := Reps.inv h
    rw [List.reverse_cons, List.reverse_cons]
    exact Reps.append (Reps.reverse h2) (Reps.cons h1 reps_nil)
theorem Reps.ints : ∀ {xs : List Int} {vs : List V}, Reps K H vs xs → vs = xs.map V.int
  | [], vs, h => by obtain rfl := Reps.nilI h; rfl
  | x :: xs, vs, h => by
    obtain ⟨v, us, rfl, h1, h2⟩ := Reps.inv h
    rw [h1.int, Reps.ints h2]
    rfl
theorem reps_ints : ∀ (xs : List Int), Reps K H (xs.map V.int) xs
  | [] => reps_nil
  | x :: xs => Reps.cons (rep_int x) (reps_ints xs)
theorem Reps.bools : ∀ {xs : List Bool} {vs : List V}, Reps K H vs xs → vs = xs.map V.bl
  | [], vs, h => by obtain rfl := Reps.nilI h; rfl
  | x :: xs, vs, h => by
    obtain ⟨v, us, rfl, h1, h2⟩ := Reps.inv h
    rw [h1.bool, Reps.bools h2]
    rfl
theorem Reps.strs : ∀ {xs : List Str} {vs : List V}, Reps K H vs xs → vs = xs.map V.str
  | [], vs, h => by obtain rfl := Reps.nilI h; rfl
  | x :: xs, vs, h => by
    obtain ⟨v, us, rfl, h1, h2⟩ := Reps.inv h
    rw [h1.str, Reps.strs h2]
    rfl
end
end Z
set_option Elab.async false
set_option linter.all false
set_option maxRecDepth 100000
set_option maxHeartbeats 2000000
namespace Z
open PySem L2
open Evl (Ex)
open Dat
/-- H without p -/
def cut (H : Hp) (p : Addr) : Hp := fun b => if b = p then none else H b
theorem cut_ne {H : Hp} {p b : Addr} (h : b ≠ p) : cut H p b = H b := if_neg h
theorem cut_same {H : Hp} {p : Addr} : cut H p p = none := if_pos rfl
theorem cut_ex {H : Hp} {p : Addr} : Ex (cut H p) H := fun a o h => by
  by_cases e : a = p
  · rw [e, cut_same] at h; cases h
  · rw [cut_ne e] at h; exact h
theorem cut_mono {G H : Hp} {p : Addr} (e : Ex G H) : Ex (cut G p) (cut H p) := fun a o h => by
  by_cases q : a = p
  · rw [q, cut_same] at h; cases h
  · rw [cut_ne q] at h ⊢; exact e a o h
theorem cut_of {G H : Hp} {p : Addr} (e : Ex G H) (h : G p = none) : Ex G (cut H p) := fun a o q => by
  have : a ≠ p := fun z => by rw [z, h] at q; cases q
  rw [cut_ne this]; exact e a o q
theorem cut_upd {H : Hp} {p : Addr} {o : HO} : cut (upd H p o) p = cut H p := by
  funext b
  by_cases q : b = p
  · rw [q, cut_same, cut_same]
  · rw [cut_ne q, cut_ne q, upd_ne q]
theorem cut_updn {H : Hp} {p : Addr} {o : HO} (h : H p = none) : cut (upd H p o) p = H := by
  funext b
  by_cases q : b = p
  · rw [q, cut_same, h]
  · rw [cut_ne q, upd_ne q]
theorem cut_upd_ne {H : Hp} {p q : Addr} {o : HO} (h : q ≠ p) : cut (upd H q o) p = upd (cut H p) q o := by
  funext b
  by_cases e : b = p
  · rw [e, cut_same, upd_ne (Ne.symm h), cut_same]
  · rw [cut_ne e]
    by_cases e2 : b = q
    · rw [e2, upd_same, upd_same]
    · rw [upd_ne e2, upd_ne e2, cut_ne e]
theorem Tups.cut {H : Hp} {p : Addr} {xs : List V} (h : H p = some (.lst xs)) : Tups H (cut H p) := Tups.del h
theorem fresh_back {H H' : Hp} {p : Addr} (e : Ex H H') (h : H' p = none) : H p = none := Evl.fresh_back e h
theorem ne_new {H : Hp} {p q : Addr} {o : HO} (h : H p = some o) (k : H q = none) : p ≠ q := ne_of_none h k
/-- a list owned: it stands at p, its items lean on nothing at p -/
structure Own (K : PySem.W.Frag) {α : Type} [Dat α] (H : Hp) (p : Addr) (xs : List α) : Prop where
  ex : ∃ vs, H p = some (.lst vs) ∧ Reps K (cut H p) vs xs
section
variable {K : PySem.W.Frag} {α β : Type} [Dat α] [Dat β] {G H H' : Hp} {p : Addr}
theorem Own.mono {xs : List α} (e : Ex G H) (h : Own K G p xs) : Own K H p xs := by
  obtain ⟨vs, h1, h2⟩ := h.ex
  exact ⟨vs, e _ _ h1, h2.mono (cut_mono e)⟩
theorem Own.rep {xs : List α} (h : Own K H p xs) : Rep K H (.ref p) xs := by
  obtain ⟨vs, h1, h2⟩ := h.ex
  exact rep_list (SqL.of h1) (h2.mono cut_ex)
theorem Own.nil : Own K (upd H p (.lst [])) p ([] : List α) := ⟨[], upd_same, reps_nil⟩
theorem Own.there {xs : List α} (h : Own K H p xs) : ∃ vs, H p = some (.lst vs) ∧ vs.length = xs.length := by
  obtain ⟨vs, h1, h2⟩ := h.ex
  exact ⟨vs, h1, h2.len⟩
theorem Own.ne {xs : List α} {q : Addr} (h : Own K H p xs) (hq : H q = none) : p ≠ q := by
  obtain ⟨vs, h1, h2⟩ := h.ex
  exact ne_of_none h1 hq
/-- the heap that knows nothing of p is kept by a change at p -/
theorem ex_mut {o : HO} (e : Ex G H) (h : G p = none) : Ex G (upd H p o) := Evl.Ex.mut e h
end
/-! ### what evaluates to what -/
def ED (K : PySem.W.Frag) (te : TE) (σ : L2.St) (H : Hp) (d : PyData) : Prop := ∀ H1, Ex H H1 → ∀ Q : VK, (∀ v H2, Ex H1 H2 → Dq K H2 v d → Q v H2) → te σ H1 Q
section
variable (K : PySem.W.Frag) {α : Type} [Dat α]
abbrev ER (te : TE) (σ : L2.St) (H : Hp) (x : α) : Prop := ED K te σ H (enc x)
/-- a new list -/
def EL (te : TE) (σ : L2.St) (H : Hp) (xs : List α) : Prop := ∀ H1, Ex H H1 → ∀ Q : VK, (∀ p H2, H1 p = none → Ex H1 H2 → Own K H2 p xs → Q (.ref p) H2) → te σ H1 Q
def ET (_K : PySem.W.Frag) (tt : TT) (σ : L2.St) (H : Hp) (b : Bool) : Prop := ∀ H1, Ex H H1 → ∀ Q : Bool → Hp → Prop, (∀ H2, Ex H1 H2 → Q b H2) → tt σ H1 Q
/-- a value told outright -/
def EV (_K : PySem.W.Frag) (te : TE) (σ : L2.St) (H : Hp) (v : V) : Prop := ∀ H1, Ex H H1 → ∀ Q : VK, (∀ H2, Ex H1 H2 → Q v H2) → te σ H1 Q
def EO (_K : PySem.W.Frag) (to : TO) (σ : L2.St) (H : Hp) (o : Option Int) : Prop := ∀ H1, Ex H H1 → ∀ Q : Option Int → Hp → Prop, (∀ H2, Ex H1 H2 → Q o H2) → to σ H1 Q
end
section
variable {K : PySem.W.Frag} {α β γ δ : Type} [Dat α] [Dat β] [Dat γ] [Dat δ] {σ : L2.St} {G H H' : Hp} {te ta tb tc td : TE} {tt tu : TT}
theorem ED.mono {d : PyData} (e : Ex G H) (h : ED K te σ G d) : ED K te σ H d := fun H1 a Q q => h H1 (e.trans a) Q q
theorem ER.mono {x : α} (e : Ex G H) (h : ER K te σ G x) : ER K te σ H x := fun H1 a Q q => h H1 (e.trans a) Q q
theorem EL.mono {x : List α} (e : Ex G H) (h : EL K te σ G x) : EL K te σ H x := fun H1 a Q q => h H1 (e.trans a) Q q
theorem ET.mono {x : Bool} (e : Ex G H) (h : ET K tt σ G x) : ET K tt σ H x := fun H1 a Q q => h H1 (e.trans a) Q q
theorem EL.er {xs : List α} (h : EL K te σ H xs) : ER K te σ H xs := fun H1 e Q q => h H1 e Q fun p H2 _ e2 o => q _ H2 e2 o.rep
theorem ER.is {x y : α} (h : ER K te σ H x) (e : x = y) : ER K te σ H y := e ▸ h
theorem EL.is {x y : List α} (h : EL K te σ H x) (e : x = y) : EL K te σ H y := e ▸ h
theorem ET.is {x y : Bool} (h : ET K tt σ H x) (e : x = y) : ET K tt σ H y := e ▸ h
theorem EV.er {v : V} {x : α} (h : EV K te σ H v) (r : Rep K H v x) : ER K te σ H x := fun H1 e Q q => h H1 e Q fun H2 e2 => q v H2 e2 (r.mono (e.trans e2))
theorem ER.evI {i : Int} (h : ER K te σ H i) : EV K te σ H (.int i) := fun H1 e Q q => h H1 e Q fun v H2 e2 r => by rw [(Rep.int r)]; exact q H2 e2
theorem ER.evB {i : Bool} (h : ER K te σ H i) : EV K te σ H (.bl i) := fun H1 e Q q => h H1 e Q fun v H2 e2 r => by rw [(Rep.bool r)]; exact q H2 e2
theorem ER.evS {i : Str} (h : ER K te σ H i) : EV K te σ H (.str i) := fun H1 e Q q => h H1 e Q fun v H2 e2 r => by rw [(Rep.str r)]; exact q H2 e2
-- names, constants
theorem ed_var {i : Nat} {v : V} {d : PyData} (h : σ[i]? = some (some v)) (r : Dq K G v d) (e : Ex G H) : ED K (tVar i) σ H d := fun H1 e1 Q q => ⟨v, h, q v H1 (Ex.refl H1) (dp_mono (e.trans e1) _ _ r)⟩
theorem ed_own {i : Nat} {p : Addr} {xs : List α} (h : σ[i]? = some (some (.ref p))) (r : Own K G p xs) (e : Ex G H) : ED K (tVar i) σ H (.list (xs.map enc)) := ed_var h r.rep e
theorem ed_lenL {β : Type} {f : β → PyData} {xs : List β} (ha : ED K ta σ H (.list (xs.map f))) : ED K (tCB (fun xs H Q => ∃ p ys, xs = [.ref p] ∧ (SqL K H p ys ∨ SqT K H p ys) ∧ Q (.int ys.length) H) (tCons ta tNil)) σ H (.int (xs.length : Int)) := fun H1 e Q q =>
  ha H1 e _ fun v H2 e2 r => by
    cases r with
    | lst s r =>
      have e := DqAll.len r
      rw [List.length_map] at e
      exact ⟨_, _, rfl, .inl s, q _ H2 e2 (by rw [← e]; exact .int _)⟩
theorem ed_lenT {β : Type} {f : β → PyData} {xs : List β} (ha : ED K ta σ H (.tuple (xs.map f))) : ED K (tCB (fun xs H Q => ∃ p ys, xs = [.ref p] ∧ (SqL K H p ys ∨ SqT K H p ys) ∧ Q (.int ys.length) H) (tCons ta tNil)) σ H (.int (xs.length : Int)) := fun H1 e Q q =>
  ha H1 e _ fun v H2 e2 r => by
    cases r with
    | tup s r =>
      have e := DqAll.len r
      rw [List.length_map] at e
      exact ⟨_, _, rfl, .inr (SqT.of s), q _ H2 e2 (by rw [← e]; exact .int _)⟩
theorem er_var {i : Nat} {v : V} {x : α} (h : σ[i]? = some (some v)) (r : Rep K G v x) (e : Ex G H) : ER K (tVar i) σ H x := fun H1 e1 Q q => ⟨v, h, q v H1 (Ex.refl H1) (r.mono (e.trans e1))⟩
theorem er_own {i : Nat} {p : Addr} {xs : List α} (h : σ[i]? = some (some (.ref p))) (r : Own K G p xs) (e : Ex G H) : ER K (tVar i) σ H xs := er_var h r.rep e
theorem ev_var {i : Nat} {v : V} (h : σ[i]? = some (some v)) : EV K (tVar i) σ H v := fun H1 e1 Q q => ⟨v, h, q H1 (Ex.refl H1)⟩
theorem er_vint {i : Nat} {n : Int} (h : σ[i]? = some (some (.int n))) : ER K (tVar i) σ H n := er_var h (rep_int n) (Ex.refl H)
theorem er_vbl {i : Nat} {n : Bool} (h : σ[i]? = some (some (.bl n))) : ER K (tVar i) σ H n := er_var h (rep_bool n) (Ex.refl H)
theorem er_vstr {i : Nat} {n : Str} (h : σ[i]? = some (some (.str n))) : ER K (tVar i) σ H n := er_var h (rep_str n) (Ex.refl H)
theorem er_int {n : Int} : ER K (tC (.int n)) σ H n := fun H1 _ Q q => q _ H1 (Ex.refl H1) (rep_int n)
theorem er_bl {n : Bool} : ER K (tC (.bl n)) σ H n := fun H1 _ Q q => q _ H1 (Ex.refl H1) (rep_bool n)
theorem er_str {n : Str} : ER K (tC (.str n)) σ H n := fun H1 _ Q q => q _ H1 (Ex.refl H1) (rep_str n)
theorem er_non : ER K (tC .non) σ H () := fun H1 _ Q q => q _ H1 (Ex.refl H1) rep_unit
theorem ev_c {v : V} : EV K (tC v) σ H v := fun H1 _ Q q => q H1 (Ex.refl H1)
-- two ints
theorem er_I0 {g : Int → Int → Int} {i j : Int} (ha : ER K ta σ H i) (hb : ER K tb σ H j) : ER K (tOp (rI0 fun a b => .int (g a b)) ta tb) σ H (g i j) := fun H1 e Q q =>
  ha.evI H1 e _ fun H2 e2 => hb.evI H2 (e.trans e2) _ fun H3 e3 => ⟨i, j, rfl, rfl, q _ H3 (e2.trans e3) (rep_int _)⟩
theorem er_IB {g : Int → Int → Bool} {i j : Int} (ha : ER K ta σ H i) (hb : ER K tb σ H j) : ER K (tOp (rI0 fun a b => .bl (g a b)) ta tb) σ H (g i j) := fun H1 e Q q =>
  ha.evI H1 e _ fun H2 e2 => hb.evI H2 (e.trans e2) _ fun H3 e3 => ⟨i, j, rfl, rfl, q _ H3 (e2.trans e3) (rep_bool _)⟩
theorem er_I {C : Int → Int → Prop} {g : Int → Int → Int} {i j : Int} (ha : ER K ta σ H i) (hb : ER K tb σ H j) (hc : C i j) : ER K (tOp (rI C fun a b => .int (g a b)) ta tb) σ H (g i j) := fun H1 e Q q =>
  ha.evI H1 e _ fun H2 e2 => hb.evI H2 (e.trans e2) _ fun H3 e3 => ⟨i, j, rfl, rfl, hc, q _ H3 (e2.trans e3) (rep_int _)⟩
theorem er_neg {i : Int} (ha : ER K ta σ H i) : ER K (tUn (rU fun i => .int (-i)) ta) σ H (-i) := fun H1 e Q q =>
  ha.evI H1 e _ fun H2 e2 => ⟨i, rfl, q _ H2 e2 (rep_int _)⟩
theorem er_eqI {i j : Int} (ha : ER K ta σ H i) (hb : ER K tb σ H j) : ER K (tOp rEq ta tb) σ H (decide (i = j)) := fun H1 e Q q =>
  ha.evI H1 e _ fun H2 e2 => hb.evI H2 (e.trans e2) _ fun H3 e3 => ⟨rfl, by
    have : decide (V.int i = V.int j) = decide (i = j) := by simp
    rw [this]; exact q _ H3 (e2.trans e3) (rep_bool _)⟩
theorem er_neI {i j : Int} (ha : ER K ta σ H i) (hb : ER K tb σ H j) : ER K (tOp rNe ta tb) σ H (!decide (i = j)) := fun H1 e Q q =>
  ha.evI H1 e _ fun H2 e2 => hb.evI H2 (e.trans e2) _ fun H3 e3 => ⟨rfl, by
    have : decide (V.int i = V.int j) = decide (i = j) := by simp
    rw [this]; exact q _ H3 (e2.trans e3) (rep_bool _)⟩
theorem er_eqB {i j : Bool} (ha : ER K ta σ H i) (hb : ER K tb σ H j) : ER K (tOp rEq ta tb) σ H (decide (i = j)) := fun H1 e Q q =>
  ha.evB H1 e _ fun H2 e2 => hb.evB H2 (e.trans e2) _ fun H3 e3 => ⟨rfl, by
    have : decide (V.bl i = V.bl j) = decide (i = j) := by simp
    rw [this]; exact q _ H3 (e2.trans e3) (rep_bool _)⟩
-- == of data
theorem er_eqD {x y : α} [DecidableEq α] [DatEq α] {n : Nat} [Deep α n] (ha : ER K ta σ H x) (hb : ER K tb σ H y) (hn : n ≤ 64 := by decide) : ER K (tOp (rEqD K) ta tb) σ H (decide (x = y)) := fun H1 e Q q =>
  ha H1 e _ fun v H2 e2 r2 => hb H2 (e.trans e2) _ fun w H3 e3 r3 => ⟨enc x, enc y, dq_dp _ _ (DatEq.lay _) (r2.mono e3), dq_dp _ _ (DatEq.lay _) r3, by
      unfold SeqAt.shaped; rw [DatEq.lay]; exact decide_eq_true (Nat.le_trans (Deep.dep x) hn), by
      unfold SeqAt.shaped; rw [DatEq.lay]; exact decide_eq_true (Nat.le_trans (Deep.dep y) hn), by rw [DatEq.eqv]; exact q _ H3 (e2.trans e3) (rep_bool _)⟩
theorem er_neD {x y : α} [DecidableEq α] [DatEq α] {n : Nat} [Deep α n] (ha : ER K ta σ H x) (hb : ER K tb σ H y) (hn : n ≤ 64 := by decide) : ER K (tOp (rNeD K) ta tb) σ H (!decide (x = y)) := fun H1 e Q q =>
  ha H1 e _ fun v H2 e2 r2 => hb H2 (e.trans e2) _ fun w H3 e3 r3 => ⟨enc x, enc y, dq_dp _ _ (DatEq.lay _) (r2.mono e3), dq_dp _ _ (DatEq.lay _) r3, by
      unfold SeqAt.shaped; rw [DatEq.lay]; exact decide_eq_true (Nat.le_trans (Deep.dep x) hn), by
      unfold SeqAt.shaped; rw [DatEq.lay]; exact decide_eq_true (Nat.le_trans (Deep.dep y) hn), by rw [DatEq.eqv]; exact q _ H3 (e2.trans e3) (rep_bool _)⟩
-- subscripts
theorem reps_at {vs : List V} {xs : List α} {i : Int} {x : α} (r : Reps K H vs xs) (h : atI xs i = some x) : ∃ v, atI vs i = some v ∧ Rep K H v x := by
  unfold atI at h ⊢
  rw [r.len]
  cases e : ixN xs.length i with
  | none => rw [e] at h; cases h
  | some j =>
    rw [e] at h
    exact r.get h
theorem er_ixL {xs : List α} {i : Int} {x : α} (ha : ER K ta σ H xs) (hb : ER K tb σ H i) (hx : atI xs i = some x) : ER K (tOp (rIxL K) ta tb) σ H x := fun H1 e Q q =>
  ha H1 e _ fun v H2 e2 r => hb.evI H2 (e.trans e2) _ fun H3 e3 => by
    obtain ⟨a, vs, rfl, s, r⟩ := (Rep.list r)
    obtain ⟨w, hw, rw'⟩ := reps_at r hx
    exact ⟨a, vs, i, w, rfl, rfl, Evl.ex_l e3 s, hw, q _ H3 (e2.trans e3) (rw'.mono e3)⟩
theorem er_ixT {xs : Tp α} {i : Int} {x : α} (ha : ER K ta σ H xs) (hb : ER K tb σ H i) (hx : atI (α := α) xs i = some x) : ER K (tOp (rIxT K) ta tb) σ H x := fun H1 e Q q =>
  ha H1 e _ fun v H2 e2 r => hb.evI H2 (e.trans e2) _ fun H3 e3 => by
    obtain ⟨a, vs, rfl, s, r⟩ := (Rep.tup r)
    obtain ⟨w, hw, rw'⟩ := reps_at r hx
    exact ⟨a, vs, i, w, rfl, rfl, Evl.ex_t e3 s, hw, q _ H3 (e2.trans e3) (rw'.mono e3)⟩
theorem er_ix0 {x : α × β} (ha : ER K ta σ H x) : ER K (tOp (rIxT K) ta (tC (.int 0))) σ H x.1 := fun H1 e Q q =>
  ha H1 e _ fun v H2 e2 r => by
    obtain ⟨a, u, w, rfl, s, r1, r2⟩ := (Rep.pair r)
    exact ⟨a, _, 0, u, rfl, rfl, s, rfl, q _ H2 e2 r1⟩
theorem er_ix1 {x : α × β} (ha : ER K ta σ H x) : ER K (tOp (rIxT K) ta (tC (.int 1))) σ H x.2 := fun H1 e Q q =>
  ha H1 e _ fun v H2 e2 r => by
    obtain ⟨a, u, w, rfl, s, r1, r2⟩ := (Rep.pair r)
    exact ⟨a, _, 1, w, rfl, rfl, s, rfl, q _ H2 e2 r2⟩
-- len, int, list, tuple
theorem er_len {xs : List α} {k : Int} (ha : ER K ta σ H xs) (hk : k = (xs.length : Int)) : ER K (tCB (fun xs H Q => ∃ p ys, xs = [.ref p] ∧ (SqL K H p ys ∨ SqT K H p ys) ∧ Q (.int ys.length) H) (tCons ta tNil)) σ H k := fun H1 e Q q =>
  ha H1 e _ fun v H2 e2 r => by
    obtain ⟨a, vs, rfl, s, r⟩ := (Rep.list r)
    exact ⟨a, vs, rfl, .inl s, q _ H2 e2 (by rw [hk, ← r.len]; exact rep_int _)⟩
theorem er_lenT {xs : Tp α} {k : Int} (ha : ER K ta σ H xs) (hk : k = (List.length xs : Int)) : ER K (tCB (fun xs H Q => ∃ p ys, xs = [.ref p] ∧ (SqL K H p ys ∨ SqT K H p ys) ∧ Q (.int ys.length) H) (tCons ta tNil)) σ H k := fun H1 e Q q =>
  ha H1 e _ fun v H2 e2 r => by
    obtain ⟨a, vs, rfl, s, r⟩ := (Rep.tup r)
    exact ⟨a, vs, rfl, .inr s, q _ H2 e2 (by rw [hk, ← r.len]; exact rep_int _)⟩
theorem er_int1 {n : Int} (ha : ER K ta σ H n) : ER K (tCB (fun xs H Q => (∃ i, xs = [.int i] ∧ Q (.int i) H) ∨ ∃ k, xs = [.bl k] ∧ Q (.int (if k then 1 else 0)) H) (tCons ta tNil)) σ H n := fun H1 e Q q =>
  ha.evI H1 e _ fun H2 e2 => .inl ⟨n, rfl, q _ H2 e2 (rep_int _)⟩
theorem el_list {xs : List α} (ha : ER K ta σ H xs) : EL K (tCB (fun xs H Q => ∃ p ys, xs = [.ref p] ∧ (SqL K H p ys ∨ SqT K H p ys) ∧ ∀ l, H l = none → Q (.ref l) (upd H l (.lst ys))) (tCons ta tNil)) σ H xs := fun H1 e Q q =>
  ha H1 e _ fun v H2 e2 r => by
    obtain ⟨a, vs, rfl, s, r⟩ := (Rep.list r)
    exact ⟨a, vs, rfl, .inl s, fun l hl => q l _ (fresh_back e2 hl) (e2.trans (Evl.Ex.new hl)) ⟨vs, upd_same, by rw [cut_updn hl]; exact r⟩⟩
theorem el_listT {xs : Tp α} (ha : ER K ta σ H xs) : EL K (tCB (fun xs H Q => ∃ p ys, xs = [.ref p] ∧ (SqL K H p ys ∨ SqT K H p ys) ∧ ∀ l, H l = none → Q (.ref l) (upd H l (.lst ys))) (tCons ta tNil)) σ H (α := α) xs := fun H1 e Q q =>
  ha H1 e _ fun v H2 e2 r => by
    obtain ⟨a, vs, rfl, s, r⟩ := (Rep.tup r)
    exact ⟨a, vs, rfl, .inr s, fun l hl => q l _ (fresh_back e2 hl) (e2.trans (Evl.Ex.new hl)) ⟨vs, upd_same, by rw [cut_updn hl]; exact r⟩⟩
theorem er_tuple {xs : List α} (ha : ER K ta σ H xs) : ER K (tCB (fun xs H Q => ∃ p ys, xs = [.ref p] ∧ ((SqL K H p ys ∧ ∀ l, H l = none → Q (.ref l) (upd H l (.tup ys))) ∨ (SqT K H p ys ∧ Q (.ref p) H))) (tCons ta tNil)) σ H (show Tp α from xs) := fun H1 e Q q =>
  ha H1 e _ fun v H2 e2 r => by
    obtain ⟨a, vs, rfl, s, r⟩ := (Rep.list r)
    exact ⟨a, vs, rfl, .inl ⟨s, fun l hl => q _ _ (e2.trans (Evl.Ex.new hl)) (rep_tup upd_same (r.mono (Evl.Ex.new hl)))⟩⟩
-- displays
/-- arguments that stand for xs -/
def EA (K : PySem.W.Frag) {α : Type} [Dat α] (ta : TA) (σ : L2.St) (H : Hp) (xs : List α) : Prop := ∀ H1, Ex H H1 → ∀ Q : List V → Hp → Prop, (∀ vs H2, Ex H1 H2 → Reps K H2 vs xs → Q vs H2) → ta σ H1 Q
theorem ea_nil : EA K tNil σ H ([] : List α) := fun H1 _ Q q => q [] H1 (Ex.refl H1) reps_nil
theorem ea_cons {tr : TA} {x : α} {xs : List α} (h : ER K ta σ H x) (hr : EA K tr σ H xs) : EA K (tCons ta tr) σ H (x :: xs) := fun H1 e Q q =>
  h H1 e _ fun v H2 e2 r => hr H2 (e.trans e2) _ fun vs H3 e3 rs => q _ H3 (e2.trans e3) (Reps.cons (r.mono e3) rs)
theorem el_lst {t : TA} {xs : List α} (h : EA K t σ H xs) (hl : xs.length ≤ 100000 := by first | decide | (simp only [List.length_cons, List.length_nil]; omega)) : EL K (tLst t) σ H xs := fun H1 e Q q =>
  h H1 e _ fun vs H2 e2 r => ⟨Evl.sz_of (by rw [r.len]; exact hl), fun p hp => q p _ (fresh_back e2 hp) (e2.trans (Evl.Ex.new hp)) ⟨vs, upd_same, by rw [cut_updn hp]; exact r⟩⟩
theorem er_tup {t : TA} {xs : List α} (h : EA K t σ H xs) (hl : xs.length ≤ 100000 := by first | decide | (simp only [List.length_cons, List.length_nil]; omega)) : ER K (tTup t) σ H (show Tp α from xs) := fun H1 e Q q =>
  h H1 e _ fun vs H2 e2 r => ⟨Evl.sz_of (by rw [r.len]; exact hl), fun p hp => q _ _ (e2.trans (Evl.Ex.new hp)) (rep_tup upd_same (r.mono (Evl.Ex.new hp)))⟩
theorem er_pair {x : α} {y : β} (h : ER K ta σ H x) (k : ER K tb σ H y) : ER K (tTup (tCons ta (tCons tb tNil))) σ H (x, y) := fun H1 e Q q =>
  h H1 e _ fun v H2 e2 r => k H2 (e.trans e2) _ fun w H3 e3 s => ⟨Evl.sz_of (by show 2 ≤ 100000; decide), fun p hp => q _ _ ((e2.trans e3).trans (Evl.Ex.new hp)) (rep_pair upd_same (r.mono (e3.trans (Evl.Ex.new hp))) (s.mono (Evl.Ex.new hp)))⟩
-- slices
theorem eo_none : EO K tNoPart σ H none := fun H1 _ Q q => q H1 (Ex.refl H1)
theorem eo_some {i : Int} (h : ER K te σ H i) : EO K (tPart te) σ H (some i) := fun H1 e Q q => h.evI H1 e _ fun H2 e2 => ⟨i, rfl, q H2 e2⟩
def cutD {α : Type} (xs : List α) (lo hi : Option Int) : List α := (xs.drop (HT.sIx xs.length 0 lo)).take (HT.sIx xs.length xs.length hi - HT.sIx xs.length 0 lo)
theorem Reps.cutV {vs : List V} {xs : List α} {lo hi : Option Int} (r : Reps K H vs xs) : Reps K H (L2.cutV vs lo hi) (cutD xs lo hi) := by
  unfold L2.cutV cutD
  rw [r.len]
  exact (r.drop _).take _
theorem el_sl {xs : List α} {tl th : TO} {lo hi : Option Int} (ha : ER K ta σ H xs) (hl : EO K tl σ H lo) (hh : EO K th σ H hi) : EL K (tSl (rSlL K) ta tl th) σ H (cutD xs lo hi) := fun H1 e Q q =>
  ha H1 e _ fun v H2 e2 r => hl H2 (e.trans e2) _ fun H3 e3 => hh H3 ((e.trans e2).trans e3) _ fun H4 e4 => by
    obtain ⟨a, vs, rfl, s, r⟩ := (Rep.list r)
    exact ⟨a, vs, rfl, Evl.ex_l (e3.trans e4) s, fun p hp => q p _ (fresh_back ((e2.trans e3).trans e4) hp) (((e2.trans e3).trans e4).trans (Evl.Ex.new hp))
      ⟨_, upd_same, by rw [cut_updn hp]; exact (r.cutV).mono (e3.trans e4)⟩⟩
theorem er_slT {xs : Tp α} {tl th : TO} {lo hi : Option Int} (ha : ER K ta σ H xs) (hl : EO K tl σ H lo) (hh : EO K th σ H hi) : ER K (tSl (rSlA K) ta tl th) σ H (show Tp α from cutD (α := α) xs lo hi) := fun H1 e Q q =>
  ha H1 e _ fun v H2 e2 r => hl H2 (e.trans e2) _ fun H3 e3 => hh H3 ((e.trans e2).trans e3) _ fun H4 e4 => by
    obtain ⟨a, vs, rfl, s, r⟩ := (Rep.tupP r)
    have s4 := (e3.trans e4) _ _ s
    have r4 := r.mono (e3.trans e4)
    refine ⟨a, vs, rfl, SqT.of s4, fun w => q _ H4 ((e2.trans e3).trans e4) (rep_tup (vs := vs) s4 ?_), fun w p hp => q _ _ (((e2.trans e3).trans e4).trans (Evl.Ex.new hp)) (rep_tup upd_same ((r4.cutV).mono (Evl.Ex.new hp)))⟩
    have c := Reps.cutV (lo := lo) (hi := hi) r4
    have z : L2.cutV vs lo hi = vs := by
      unfold L2.cutV
      rw [w.1, w.2, List.drop_zero, Nat.sub_zero, List.take_length]
    rw [z] at c
    exact c
theorem el_rev {xs : List α} (ha : ER K ta σ H xs) : EL K (tRevL K ta) σ H xs.reverse := fun H1 e Q q =>
  ha H1 e _ fun v H2 e2 r => by
    obtain ⟨a, vs, rfl, s, r⟩ := (Rep.list r)
    exact ⟨a, vs, rfl, s, fun p hp => q p _ (fresh_back e2 hp) (e2.trans (Evl.Ex.new hp)) ⟨_, upd_same, by rw [cut_updn hp]; exact r.reverse⟩⟩
-- tuple + tuple
theorem er_catT {xs ys : Tp α} (ha : ER K ta σ H xs) (hb : ER K tb σ H ys) (hl : List.length xs + List.length ys ≤ 100000) : ER K (tOp (rCatA K) ta tb) σ H (show Tp α from @List.append α xs ys) := fun H1 e Q q =>
  ha H1 e _ fun v H2 e2 r => hb H2 (e.trans e2) _ fun w H3 e3 s => by
    obtain ⟨a, vs, rfl, s1, r1⟩ := (Rep.tupP r)
    obtain ⟨b, ws, rfl, s2, r2⟩ := (Rep.tupP s)
    have s1' := e3 _ _ s1
    have r1' := r1.mono e3
    have c : Reps K H3 (vs ++ ws) (@List.append α xs ys) := r1'.append r2
    refine ⟨a, b, vs, ws, rfl, rfl, SqT.of s1', SqT.of s2, Evl.sz_of (by rw [r1.len, r2.len]; exact hl), fun z => ?_, fun _ z => ?_, fun _ _ p hp => ?_⟩
    · subst z
      exact q _ H3 (e2.trans e3) (rep_tup s2 c)
    · subst z
      rw [List.append_nil] at c
      exact q _ H3 (e2.trans e3) (rep_tup s1' c)
    · exact q _ _ ((e2.trans e3).trans (Evl.Ex.new hp)) (rep_tup upd_same (c.mono (Evl.Ex.new hp)))
-- list + list, of lists that stand tracked
theorem el_cat {xs ys : List α} (ha : EL K ta σ H xs) (hb : EL K tb σ H ys) [Flat α] (hl : xs.length + ys.length ≤ 100000) : EL K (tOp rCat ta tb) σ H (xs ++ ys) := fun H1 e Q q =>
  ha H1 e _ fun p H2 hp e2 o => hb H2 (e.trans e2) _ fun r H3 hr e3 o2 => by
    obtain ⟨vs, h1, r1⟩ := (o.mono e3).ex
    obtain ⟨ws, h2, r2⟩ := o2.ex
    refine ⟨p, r, vs, ws, rfl, rfl, h1, h2, Evl.sz_of (by rw [r1.len, r2.len]; exact hl), fun t ht => q t _ (fresh_back (e2.trans e3) ht) ((e2.trans e3).trans (Evl.Ex.new ht)) ⟨_, upd_same, ?_⟩⟩
    rw [cut_updn ht]
    exact (r1.mono cut_ex).append (r2.mono cut_ex)
-- tests
theorem et_test {b : Bool} (h : ER K te σ H b) : ET K (tTest te) σ H b := fun H1 e _ q => h.evB H1 e _ fun H2 e2 => ⟨b, rfl, q H2 e2⟩
theorem et_B {b : Bool} (h : ER K te σ H b) : ET K (tB te) σ H b := fun H1 e _ q => h.evB H1 e _ fun H2 e2 => ⟨b, rfl, q H2 e2⟩
theorem et_and {a b : Bool} (h1 : ET K tt σ H a) (h2 : a = true → ET K tu σ H b) : ET K (tAnd tt tu) σ H (a && b) := fun H1 e Q q => h1 H1 e _ fun H2 e2 => by
  cases a with
  | true => exact h2 rfl H2 (e.trans e2) Q fun H3 e3 => q H3 (e2.trans e3)
  | false => exact q H2 e2
theorem et_or {a b : Bool} (h1 : ET K tt σ H a) (h2 : a = false → ET K tu σ H b) : ET K (tOr tt tu) σ H (a || b) := fun H1 e Q q => h1 H1 e _ fun H2 e2 => by
  cases a with
  | true => exact q H2 e2
  | false => exact h2 rfl H2 (e.trans e2) Q fun H3 e3 => q H3 (e2.trans e3)
theorem et_not {a : Bool} (h1 : ET K tt σ H a) : ET K (tNot tt) σ H (!a) := fun H1 e _ q => h1 H1 e _ fun H2 e2 => q H2 e2
theorem er_andV {a b : Bool} (h1 : ER K ta σ H a) (h2 : a = true → ER K tb σ H b) : ER K (tAndV ta tb) σ H (a && b) := fun H1 e Q q => h1.evB H1 e _ fun H2 e2 => ⟨a, rfl, by
  cases a with
  | true => exact h2 rfl H2 (e.trans e2) Q fun v H3 e3 r => q v H3 (e2.trans e3) r
  | false => exact q _ H2 e2 (rep_bool _)⟩
theorem er_orV {a b : Bool} (h1 : ER K ta σ H a) (h2 : a = false → ER K tb σ H b) : ER K (tOrV ta tb) σ H (a || b) := fun H1 e Q q => h1.evB H1 e _ fun H2 e2 => ⟨a, rfl, by
  cases a with
  | true => exact q _ H2 e2 (rep_bool _)
  | false => exact h2 rfl H2 (e.trans e2) Q fun v H3 e3 r => q v H3 (e2.trans e3) r⟩
theorem er_notV {a : Bool} (h1 : ER K ta σ H a) : ER K (tNotV ta) σ H (!a) := fun H1 e Q q => h1.evB H1 e _ fun H2 e2 => ⟨a, rfl, q _ H2 e2 (rep_bool _)⟩
theorem er_if {b : Bool} {x y : α} (h : ET K tt σ H b) (h1 : b = true → ER K ta σ H x) (h2 : b = false → ER K tb σ H y) : ER K (tIf tt ta tb) σ H (if b = true then x else y) := fun H1 e Q q => h H1 e _ fun H2 e2 => by
  cases b with
  | true => exact h1 rfl H2 (e.trans e2) Q fun v H3 e3 r => q v H3 (e2.trans e3) r
  | false => exact h2 rfl H2 (e.trans e2) Q fun v H3 e3 r => q v H3 (e2.trans e3) r
end
/-! ### promises of defs -/
section
variable (K : PySem.W.Frag) {α β γ δ ε : Type} [Dat α] [Dat β] [Dat γ] [Dat δ] [Dat ε]
/-- a datum from data -/
def sp1 (pre : α → Prop) (m : α → ε) : Sp := fun vs H Q _ => ∃ v x, vs = [v] ∧ Rep K H v x ∧ pre x ∧ ∀ w H', Ex H H' → Rep K H' w (m x) → Q w H'
def sp2 (pre : α → β → Prop) (m : α → β → ε) : Sp := fun vs H Q _ => ∃ v u x y, vs = [v, u] ∧ Rep K H v x ∧ Rep K H u y ∧ pre x y ∧ ∀ w H', Ex H H' → Rep K H' w (m x y) → Q w H'
def sp3 (pre : α → β → γ → Prop) (m : α → β → γ → ε) : Sp := fun vs H Q _ => ∃ v u t x y z, vs = [v, u, t] ∧ Rep K H v x ∧ Rep K H u y ∧ Rep K H t z ∧ pre x y z ∧ ∀ w H', Ex H H' → Rep K H' w (m x y z) → Q w H'
/-- a new list from data -/
def sl1 (pre : α → Prop) (m : α → List ε) : Sp := fun vs H Q _ => ∃ v x, vs = [v] ∧ Rep K H v x ∧ pre x ∧ ∀ p H', H p = none → Ex H H' → Own K H' p (m x) → Q (.ref p) H'
def sl2 (pre : α → β → Prop) (m : α → β → List ε) : Sp := fun vs H Q _ => ∃ v u x y, vs = [v, u] ∧ Rep K H v x ∧ Rep K H u y ∧ pre x y ∧ ∀ p H', H p = none → Ex H H' → Own K H' p (m x y) → Q (.ref p) H'
def sl3 (pre : α → β → γ → Prop) (m : α → β → γ → List ε) : Sp := fun vs H Q _ => ∃ v u t x y z, vs = [v, u, t] ∧ Rep K H v x ∧ Rep K H u y ∧ Rep K H t z ∧ pre x y z ∧ ∀ p H', H p = none → Ex H H' → Own K H' p (m x y z) → Q (.ref p) H'
end
section
variable {K : PySem.W.Frag} {α β γ δ ε : Type} [Dat α] [Dat β] [Dat γ] [Dat δ] [Dat ε] {σ : L2.St} {H : Hp} {ta tb tc : TE} {E : XK}
theorem er_c1 {pre : α → Prop} {m : α → ε} {x : α} (h : ER K ta σ H x) (hp : pre x) : ER K (tCall (sp1 K pre m) [] E (tCons ta tNil)) σ H (m x) := fun H1 e Q q =>
  h H1 e _ fun v H2 e2 r => ⟨v, x, rfl, r, hp, fun w H3 e3 s => q w H3 (e2.trans e3) s⟩
theorem er_c2 {pre : α → β → Prop} {m : α → β → ε} {x : α} {y : β} (h : ER K ta σ H x) (h2 : ER K tb σ H y) (hp : pre x y) : ER K (tCall (sp2 K pre m) [] E (tCons ta (tCons tb tNil))) σ H (m x y) := fun H1 e Q q =>
  h H1 e _ fun v H2 e2 r => h2 H2 (e.trans e2) _ fun u H3 e3 r2 => ⟨v, u, x, y, rfl, r.mono e3, r2, hp, fun w H4 e4 s => q w H4 ((e2.trans e3).trans e4) s⟩
theorem er_c3 {pre : α → β → γ → Prop} {m : α → β → γ → ε} {x : α} {y : β} {z : γ} (h : ER K ta σ H x) (h2 : ER K tb σ H y) (h3 : ER K tc σ H z) (hp : pre x y z) : ER K (tCall (sp3 K pre m) [] E (tCons ta (tCons tb (tCons tc tNil)))) σ H (m x y z) := fun H1 e Q q =>
  h H1 e _ fun v H2 e2 r => h2 H2 (e.trans e2) _ fun u H3 e3 r2 => h3 H3 ((e.trans e2).trans e3) _ fun t H4 e4 r3 => ⟨v, u, t, x, y, z, rfl, r.mono (e3.trans e4), r2.mono e4, r3, hp, fun w H5 e5 s => q w H5 (((e2.trans e3).trans e4).trans e5) s⟩
theorem el_c1 {pre : α → Prop} {m : α → List ε} {x : α} (h : ER K ta σ H x) (hp : pre x) : EL K (tCall (sl1 K pre m) [] E (tCons ta tNil)) σ H (m x) := fun H1 e Q q =>
  h H1 e _ fun v H2 e2 r => ⟨v, x, rfl, r, hp, fun w H3 n3 e3 s => q w H3 (fresh_back e2 n3) (e2.trans e3) s⟩
theorem el_c2 {pre : α → β → Prop} {m : α → β → List ε} {x : α} {y : β} (h : ER K ta σ H x) (h2 : ER K tb σ H y) (hp : pre x y) : EL K (tCall (sl2 K pre m) [] E (tCons ta (tCons tb tNil))) σ H (m x y) := fun H1 e Q q =>
  h H1 e _ fun v H2 e2 r => h2 H2 (e.trans e2) _ fun u H3 e3 r2 => ⟨v, u, x, y, rfl, r.mono e3, r2, hp, fun w H4 n4 e4 s => q w H4 (fresh_back (e2.trans e3) n4) ((e2.trans e3).trans e4) s⟩
theorem el_c3 {pre : α → β → γ → Prop} {m : α → β → γ → List ε} {x : α} {y : β} {z : γ} (h : ER K ta σ H x) (h2 : ER K tb σ H y) (h3 : ER K tc σ H z) (hp : pre x y z) : EL K (tCall (sl3 K pre m) [] E (tCons ta (tCons tb (tCons tc tNil)))) σ H (m x y z) := fun H1 e Q q =>
  h H1 e _ fun v H2 e2 r => h2 H2 (e.trans e2) _ fun u H3 e3 r2 => h3 H3 ((e.trans e2).trans e3) _ fun t H4 e4 r3 => ⟨v, u, t, x, y, z, rfl, r.mono (e3.trans e4), r2.mono e4, r3, hp, fun w H5 n5 e5 s => q w H5 (fresh_back ((e2.trans e3).trans e4) n5) (((e2.trans e3).trans e4).trans e5) s⟩
end
section
variable {CX : CXT} {P : Program} {w : World} {K : PySem.W.Frag} {mg : Str → Option Value} {base : Heap} {N : List Str} {qual : Str} {sc : Scope} {f : Addr} {cd : Value} {A : Around} {outer : List Env} {s : Shared} {H : Hp} {E : XK} {X : Cx}
theorem kx1 : (cxOf CX P w K mg base N qual sc f cd A outer s H E).nox.K = K := rfl
theorem kx2 : (cxOf CX P w K mg base N qual sc f cd A outer s H E).K = K := rfl
theorem kx3 {s' : Shared} {H' : Hp} {scope : Scope} {env : Env} {fp : List Addr} : (X.blk s' H' scope env fp).K = X.K := rfl
end
/-! ### statements -/
section
variable {K : PySem.W.Frag} {α β : Type} [Dat α] [Dat β] {σ : L2.St} {G H : Hp} {te : TE} {tt : TT} {t u : TS} {D : Ends} {i : Nat}
theorem s_seq (h : t { D with nx := u D } σ H) : tSeq t u D σ H := h
theorem s_set {x : α} (h : ER K te σ H x) (k : ∀ v H', Ex H H' → Rep K H' v x → D.nx (σ.set i (some v)) H') : tAsg te (gName i) D σ H := h H (Ex.refl H) _ k
theorem s_setI {x : Int} (h : ER K te σ H x) (k : ∀ H', Ex H H' → D.nx (σ.set i (some (.int x))) H') : tAsg te (gName i) D σ H := h.evI H (Ex.refl H) _ k
theorem s_setB {x : Bool} (h : ER K te σ H x) (k : ∀ H', Ex H H' → D.nx (σ.set i (some (.bl x))) H') : tAsg te (gName i) D σ H := h.evB H (Ex.refl H) _ k
theorem s_setL {xs : List α} (h : EL K te σ H xs) (k : ∀ p H', H p = none → Ex H H' → Own K H' p xs → D.nx (σ.set i (some (.ref p))) H') : tAsg te (gName i) D σ H := h H (Ex.refl H) _ k
/-! the same ahead of a rest -/
theorem q_asg {w : V} {g : TG} (h : EV K te σ H w) (k : ∀ H', Ex H H' → g w σ H' (u D)) : tSeq (tAsg te g) u D σ H := h H (Ex.refl H) _ k
theorem q_set {x : α} (h : ER K te σ H x) (k : ∀ v H', Ex H H' → Rep K H' v x → u D (σ.set i (some v)) H') : tSeq (tAsg te (gName i)) u D σ H := s_set (D := { D with nx := u D }) h k
theorem q_setI {x : Int} (h : ER K te σ H x) (k : ∀ H', Ex H H' → u D (σ.set i (some (.int x))) H') : tSeq (tAsg te (gName i)) u D σ H := s_setI (D := { D with nx := u D }) h k
theorem q_setB {x : Bool} (h : ER K te σ H x) (k : ∀ H', Ex H H' → u D (σ.set i (some (.bl x))) H') : tSeq (tAsg te (gName i)) u D σ H := s_setB (D := { D with nx := u D }) h k
theorem q_setV {v : V} (h : EV K te σ H v) (k : ∀ H', Ex H H' → u D (σ.set i (some v)) H') : tSeq (tAsg te (gName i)) u D σ H := h H (Ex.refl H) _ k
theorem q_setL {xs : List α} (h : EL K te σ H xs) (k : ∀ p H', H p = none → Ex H H' → Own K H' p xs → u D (σ.set i (some (.ref p))) H') : tSeq (tAsg te (gName i)) u D σ H := s_setL (D := { D with nx := u D }) h k
theorem s_ret {x : α} (h : ER K te σ H x) (k : ∀ v H', Ex H H' → Rep K H' v x → D.rt v H') : tRet te D σ H := h H (Ex.refl H) _ k
theorem s_retL {xs : List α} (h : EL K te σ H xs) (k : ∀ p H', H p = none → Ex H H' → Own K H' p xs → D.rt (.ref p) H') : tRet te D σ H := h H (Ex.refl H) _ k
theorem s_if {b : Bool} (h : ET K tt σ H b) (k1 : b = true → ∀ H', Ex H H' → t D σ H') (k2 : b = false → ∀ H', Ex H H' → u D σ H') : tIfS tt t u D σ H := h H (Ex.refl H) _ fun H2 e2 => by
  cases b with
  | true => exact k1 rfl H2 e2
  | false => exact k2 rfl H2 e2
theorem q_if {b : Bool} (h : ET K tt σ H b) (k1 : b = true → ∀ H', Ex H H' → t { D with nx := u D } σ H') (k2 : b = false → ∀ H', Ex H H' → u D σ H') : tSeq (tIfS tt t tNext) u D σ H := s_if (D := { D with nx := u D }) h k1 k2
/-- l.append(e), l a name -/
theorem s_app {l : Nat} {p : Addr} {xs : List α} {x : α} (hl : σ[l]? = some (some (.ref p))) (ho : Own K H p xs) (h : ER K te σ H x) [Flat α] (hz : xs.length < 100000) (k : ∀ H', (∀ G, Ex G H → G p = none → Ex G H') → Tups H H' → Own K H' p (xs ++ [x]) → D.nx σ H') :
    tDrop (tBM K "list" rAppend (tVar l) (tCons te tNil)) D σ H := by
  obtain ⟨vs, h1, r1⟩ := ho.ex
  refine ⟨_, hl, .inl ⟨rfl, _, SqL.of h1⟩, h H (Ex.refl H) _ fun v H1 e1 r => ?_⟩
  obtain ⟨ws, h2, r2⟩ := (ho.mono e1).ex
  have ew : ws = vs := by
    have := e1 _ _ h1
    rw [this] at h2
    cases h2; rfl
  subst ew
  refine ⟨p, ws, v, rfl, rfl, h2, Evl.sz_lt (by rw [r2.len]; exact hz), k _ (fun G eG hG => ex_mut (eG.trans e1) hG) ((Tups.ex e1).trans (Tups.upd h2)) ⟨_, upd_same, ?_⟩⟩
  rw [cut_upd]
  exact Reps.append r2 (Reps.cons (r.imm (Tups.cut h2)) reps_nil)
theorem q_app {l : Nat} {p : Addr} {xs : List α} {x : α} (hl : σ[l]? = some (some (.ref p))) (ho : Own K H p xs) (h : ER K te σ H x) [Flat α] (hz : xs.length < 100000) (k : ∀ H', (∀ G, Ex G H → G p = none → Ex G H') → Tups H H' → Own K H' p (xs ++ [x]) → u D σ H') :
    tSeq (tDrop (tBM K "list" rAppend (tVar l) (tCons te tNil))) u D σ H := s_app (D := { D with nx := u D }) hl ho h hz k
/-- a for over a list that stands; G: what the turns leave as it is -/
theorem s_for {xs : List α} {g : TG} {tb : TS} (h : ER K te σ H xs) (k : ∀ a vs H1, Ex H H1 → SqL K H1 a vs → Reps K H1 vs xs → ∃ (G : Hp) (J : Nat → L2.St → Hp → Prop), Ex G H1 ∧ SqL K G a vs ∧ Reps K G vs xs ∧ J 0 σ H1 ∧
      (∀ i x v σ' H', xs[i]? = some x → Ex G H' → Rep K G v x → J i σ' H' → g v σ' H' fun σ2 H2 => tb { D with nx := fun σ3 H3 => Ex G H3 ∧ J (i + 1) σ3 H3, ct := fun σ3 H3 => Ex G H3 ∧ J (i + 1) σ3 H3, bk := D.nx } σ2 H2) ∧
      (∀ σ' H', Ex G H' → J xs.length σ' H' → D.nx σ' H')) : tFor (iList K te) g tb D σ H := h H (Ex.refl H) _ fun v H1 e1 r => by
  obtain ⟨a, vs, rfl, s, r⟩ := (Rep.list r)
  obtain ⟨G, J, eG, sG, rG, j0, js, jd⟩ := k a vs H1 e1 s r
  refine ⟨a, rfl, ⟨vs, s⟩, for_list (K := K) (a := a) (xs := vs) (fun i σ' H' => Ex G H' ∧ J i σ' H') ⟨eG, j0⟩ (fun i σ' H' _ z => Evl.ex_l z.1 sG) (fun i v σ' H' hi z => ?_) (fun σ' H' z => ?_)⟩
  · obtain ⟨x, hx, rx⟩ := rG.got hi
    exact js i x v σ' H' hx z.1 rx z.2
  · rw [r.len] at z
    exact jd σ' H' z.1 z.2
/-- .. over a list that a name holds and that stands in G -/
theorem s_forV {xs : List α} {n : Nat} {v : V} {g : TG} {tb : TS} (hσ : σ[n]? = some (some v)) (r : Rep K G v xs) (e : Ex G H) (J : Nat → L2.St → Hp → Prop) (j0 : J 0 σ H)
    (js : ∀ i x w σ' H', xs[i]? = some x → Ex G H' → Rep K G w x → J i σ' H' → g w σ' H' fun σ2 H2 => tb { D with nx := fun σ3 H3 => Ex G H3 ∧ J (i + 1) σ3 H3, ct := fun σ3 H3 => Ex G H3 ∧ J (i + 1) σ3 H3, bk := D.nx } σ2 H2)
    (jd : ∀ σ' H', Ex G H' → J xs.length σ' H' → D.nx σ' H') : tFor (iList K (tVar n)) g tb D σ H := by
  obtain ⟨a, vs, rfl, sG, rG⟩ := Rep.list r
  refine ⟨_, hσ, a, rfl, ⟨vs, Evl.ex_l e sG⟩, for_list (K := K) (a := a) (xs := vs) (fun i σ' H' => Ex G H' ∧ J i σ' H') ⟨e, j0⟩ (fun i σ' H' _ z => Evl.ex_l z.1 sG) (fun i w σ' H' hi z => ?_) (fun σ' H' z => ?_)⟩
  · obtain ⟨x, hx, rx⟩ := rG.got hi
    exact js i x w σ' H' hx z.1 rx z.2
  · rw [rG.len] at z
    exact jd σ' H' z.1 z.2
theorem s_forT {xs : Tp α} {g : TG} {tb : TS} (h : ER K te σ H xs) (k : ∀ a vs H1, Ex H H1 → SqT K H1 a vs → Reps K H1 vs (α := α) xs → ∃ (G : Hp) (J : Nat → L2.St → Hp → Prop), Ex G H1 ∧ SqT K G a vs ∧ Reps K G vs (α := α) xs ∧ J 0 σ H1 ∧
      (∀ i x v σ' H', (show List α from xs)[i]? = some x → Ex G H' → Rep K G v x → J i σ' H' → g v σ' H' fun σ2 H2 => tb { D with nx := fun σ3 H3 => Ex G H3 ∧ J (i + 1) σ3 H3, ct := fun σ3 H3 => Ex G H3 ∧ J (i + 1) σ3 H3, bk := D.nx } σ2 H2) ∧
      (∀ σ' H', Ex G H' → J (List.length xs) σ' H' → D.nx σ' H')) : tFor (iTup K te) g tb D σ H := h H (Ex.refl H) _ fun v H1 e1 r => by
  obtain ⟨a, vs, rfl, s, r⟩ := (Rep.tup r)
  obtain ⟨G, J, eG, sG, rG, j0, js, jd⟩ := k a vs H1 e1 s r
  refine ⟨a, rfl, ⟨vs, s⟩, for_tup (K := K) (a := a) (xs := vs) (fun i σ' H' => Ex G H' ∧ J i σ' H') ⟨eG, j0⟩ (fun i σ' H' _ z => Evl.ex_t z.1 sG) (fun i v σ' H' hi z => ?_) (fun σ' H' z => ?_)⟩
  · obtain ⟨x, hx, rx⟩ := rG.got hi
    exact js i x v σ' H' hx z.1 rx z.2
  · rw [r.len] at z
    exact jd σ' H' z.1 z.2
/-- for k in range(n) -/
theorem s_rng {n : Int} {ta : TE} {g : TG} {tb : TS} (h : ER K ta σ H n) (hn : n < 2 ^ 62) (hn0 : -(2 ^ 62) ≤ n) (k : ∀ H1, Ex H H1 → ∃ (G : Hp) (J : Nat → L2.St → Hp → Prop), Ex G H1 ∧ J 0 σ H1 ∧
      (∀ (i : Nat) σ' H', i < n.toNat → Ex G H' → J i σ' H' → g (.int (i : Int)) σ' H' fun σ2 H2 => tb { D with nx := fun σ3 H3 => Ex G H3 ∧ J (i + 1) σ3 H3, ct := fun σ3 H3 => Ex G H3 ∧ J (i + 1) σ3 H3, bk := D.nx } σ2 H2) ∧
      (∀ σ' H', Ex G H' → J n.toNat σ' H' → D.nx σ' H')) : tFor (iRng1 (tCons ta tNil)) g tb D σ H := h.evI H (Ex.refl H) _ fun H1 e1 => by
  obtain ⟨G, J, eG, j0, js, jd⟩ := k H1 e1
  refine ⟨n, rfl, hn0, hn, for_range (lo := 0) (n := n.toNat) (fun i σ' H' => Ex G H' ∧ J i σ' H') ⟨eG, j0⟩ (fun i σ' H' hi z => ?_) (fun σ' H' z => jd σ' H' z.1 z.2)⟩
  rw [Int.zero_add]
  exact js i σ' H' hi z.1 z.2
theorem s_rng2 {lo hi : Int} {ta tc : TE} {g : TG} {tb : TS} (h : ER K ta σ H lo) (h' : ER K tc σ H hi) (hb : -(2 ^ 62) ≤ lo ∧ lo < 2 ^ 62 ∧ -(2 ^ 62) ≤ hi ∧ hi < 2 ^ 62) (k : ∀ H1, Ex H H1 → ∃ (G : Hp) (J : Nat → L2.St → Hp → Prop), Ex G H1 ∧ J 0 σ H1 ∧
      (∀ (i : Nat) σ' H', i < (hi - lo).toNat → Ex G H' → J i σ' H' → g (.int (lo + (i : Int))) σ' H' fun σ2 H2 => tb { D with nx := fun σ3 H3 => Ex G H3 ∧ J (i + 1) σ3 H3, ct := fun σ3 H3 => Ex G H3 ∧ J (i + 1) σ3 H3, bk := D.nx } σ2 H2) ∧
      (∀ σ' H', Ex G H' → J (hi - lo).toNat σ' H' → D.nx σ' H')) : tFor (iRng2 (tCons ta (tCons tc tNil))) g tb D σ H := h.evI H (Ex.refl H) _ fun H0 e0 => h'.evI H0 e0 _ fun H1 e1 => by
  obtain ⟨G, J, eG, j0, js, jd⟩ := k H1 (e0.trans e1)
  exact ⟨lo, hi, rfl, hb, for_range (lo := lo) (n := (hi - lo).toNat) (fun i σ' H' => Ex G H' ∧ J i σ' H') ⟨eG, j0⟩ (fun i σ' H' hi z => js i σ' H' hi z.1 z.2) (fun σ' H' z => jd σ' H' z.1 z.2)⟩
end
/-! ### comprehensions -/
section
variable {K : PySem.W.Frag} {α β : Type} [Dat α] [Dat β] {σ : L2.St} {G H : Hp} {te tl : TE} {tt : TT} {i : Nat}
theorem wipe1 (v : Option V) : wipe ((wipe σ [i]).set i v) [i] = wipe σ [i] := by
  show (((σ.set i none).set i v).set i none) = σ.set i none
  rw [List.set_set, List.set_set]
/-- [f(x) for x in xs] -/
theorem el_map {xs : List α} {f : α → β} [Flat β] (h : ER K tl σ H xs) (he : ∀ x v H', x ∈ xs → Ex H H' → Rep K H' v x → ER K te ((wipe σ [i]).set i (some v)) H' (f x)) (hz : xs.length ≤ 100000) :
    EL K (tLc (iList K tl) (gName i) tYes te [i]) σ H (xs.map f) := fun H0 e0 Q q => h H0 e0 _ fun v H1 e1 r => by
  obtain ⟨a, vs, rfl, s, r⟩ := (Rep.list r)
  refine ⟨a, rfl, ⟨vs, s⟩, fun D hD => lc_list (K := K) (a := a) (xs := vs) (fun j H' => Ex H1 H' ∧ Own K H' D ((xs.take j).map f)) ⟨Evl.Ex.new hD, by simpa using Own.nil⟩ (fun j H' _ z => Evl.ex_l z.1 s) (fun j v H' hj z => ?_) (fun H' z => ?_)⟩
  · obtain ⟨x, hx, rx⟩ := r.got hj
    have hlt : j < xs.length := (List.getElem?_eq_some_iff.mp hx).1
    refine ⟨wipe1 _, he x v H' (List.mem_of_getElem? hx) (e0.trans (e1.trans z.1)) (rx.mono z.1) H' (Ex.refl H') _ fun w H2 e2 rw' => ?_⟩
    obtain ⟨acc, h1, r1⟩ := (z.2.mono e2).ex
    refine ⟨acc, h1, Evl.sz_lt (by rw [r1.len, List.length_map, List.length_take]; omega), ex_mut (z.1.trans e2) hD, acc ++ [w], upd_same, ?_⟩
    rw [cut_upd, show xs.take (j + 1) = xs.take j ++ [x] by rw [List.take_succ, hx]; rfl, List.map_append]
    exact r1.append (Reps.cons (rw'.imm (Tups.cut h1)) reps_nil)
  · have e : xs.take vs.length = xs := by rw [r.len, List.take_length]
    rw [e] at z
    exact q D H' (fresh_back e1 hD) (e1.trans z.1) z.2
/-- [f(x) for x in xs if p(x)] -/
theorem el_filter {xs : List α} {f : α → β} {p : α → Bool} [Flat β] (h : ER K tl σ H xs) (ht : ∀ x v H', x ∈ xs → Ex H H' → Rep K H' v x → ET K tt ((wipe σ [i]).set i (some v)) H' (p x))
    (he : ∀ x v H', x ∈ xs → p x = true → Ex H H' → Rep K H' v x → ER K te ((wipe σ [i]).set i (some v)) H' (f x)) (hz : xs.length ≤ 100000) :
    EL K (tLc (iList K tl) (gName i) tt te [i]) σ H ((xs.filter p).map f) := fun H0 e0 Q q => h H0 e0 _ fun v H1 e1 r => by
  obtain ⟨a, vs, rfl, s, r⟩ := (Rep.list r)
  refine ⟨a, rfl, ⟨vs, s⟩, fun D hD => lc_list (K := K) (a := a) (xs := vs) (fun j H' => Ex H1 H' ∧ Own K H' D (((xs.take j).filter p).map f)) ⟨Evl.Ex.new hD, by simpa using Own.nil⟩ (fun j H' _ z => Evl.ex_l z.1 s) (fun j v H' hj z => ?_) (fun H' z => ?_)⟩
  · obtain ⟨x, hx, rx⟩ := r.got hj
    have hlt : j < xs.length := (List.getElem?_eq_some_iff.mp hx).1
    have hm := List.mem_of_getElem? hx
    refine ⟨wipe1 _, ht x v H' hm (e0.trans (e1.trans z.1)) (rx.mono z.1) H' (Ex.refl H') _ fun H2 e2 => ?_⟩
    have et : xs.take (j + 1) = xs.take j ++ [x] := by rw [List.take_succ, hx]; rfl
    cases hp : p x with
    | false =>
      refine (if_neg Bool.false_ne_true).mpr ⟨z.1.trans e2, ?_⟩
      rw [et, List.filter_append, List.filter_cons_of_neg (by simp [hp]), List.filter_nil, List.append_nil]
      exact z.2.mono e2
    | true =>
      refine (if_pos rfl).mpr (he x v H2 hm hp (e0.trans ((e1.trans z.1).trans e2)) (rx.mono (z.1.trans e2)) H2 (Ex.refl H2) _ fun w H3 e3 rw' => ?_)
      obtain ⟨acc, h1, r1⟩ := (z.2.mono (e2.trans e3)).ex
      refine ⟨acc, h1, Evl.sz_lt ?_, ex_mut (z.1.trans (e2.trans e3)) hD, acc ++ [w], upd_same, ?_⟩
      · rw [r1.len, List.length_map]
        have := List.length_filter_le p (xs.take j)
        rw [List.length_take] at this
        omega
      · rw [cut_upd, et, List.filter_append, List.filter_cons_of_pos (by simp [hp]), List.filter_nil, List.map_append]
        exact r1.append (Reps.cons (rw'.imm (Tups.cut h1)) reps_nil)
  · have e : xs.take vs.length = xs := by rw [r.len, List.take_length]
    rw [e] at z
    exact q D H' (fresh_back e1 hD) (e1.trans z.1) z.2
/-- [f(k) for k in range(n)] -/
theorem el_rmapN {n : Int} {ta : TE} {f : Nat → β} [Flat β] (h : ER K ta σ H n) (hn0 : -100000 ≤ n) (hz : n ≤ 100000) (he : ∀ (k : Nat) H', (k : Int) < n → Ex H H' → ER K te ((wipe σ [i]).set i (some (.int k))) H' (f k)) :
    EL K (tLc (iRng1 (tCons ta tNil)) (gName i) tYes te [i]) σ H ((List.range n.toNat).map f) := fun H0 e0 Q q => h.evI H0 e0 _ fun H1 e1 => by
  refine ⟨n, rfl, by omega, by omega, fun D hD => lc_range (lo := 0) (n := n.toNat) (fun j H' => Ex H1 H' ∧ Own K H' D ((List.range j).map f)) ⟨Evl.Ex.new hD, by simpa using Own.nil⟩ (fun j H' hj z => ?_) (fun H' z => ?_)⟩
  · rw [Int.zero_add]
    refine ⟨wipe1 _, he j H' (by omega) (e0.trans (e1.trans z.1)) H' (Ex.refl H') _ fun w H2 e2 rw' => ?_⟩
    obtain ⟨acc, h1, r1⟩ := (z.2.mono e2).ex
    refine ⟨acc, h1, Evl.sz_lt (by rw [r1.len, List.length_map, List.length_range]; omega), ex_mut (z.1.trans e2) hD, acc ++ [w], upd_same, ?_⟩
    rw [cut_upd, List.range_succ, List.map_append]
    exact r1.append (Reps.cons (rw'.imm (Tups.cut h1)) reps_nil)
  · exact q D H' (fresh_back e1 hD) (e1.trans z.1) z.2
theorem el_rmap {n : Int} {ta : TE} {f : Nat → β} [Flat β] (h : ER K ta σ H n) (hn0 : 0 ≤ n) (hz : n ≤ 100000) (he : ∀ (k : Nat) H', (k : Int) < n → Ex H H' → ER K te ((wipe σ [i]).set i (some (.int k))) H' (f k)) :
    EL K (tLc (iRng1 (tCons ta tNil)) (gName i) tYes te [i]) σ H ((List.range n.toNat).map f) := el_rmapN h (by omega) hz he
theorem el_rfilterN {n : Int} {ta : TE} {f : Nat → β} {p : Nat → Bool} [Flat β] (h : ER K ta σ H n) (hn0 : -100000 ≤ n) (hz : n ≤ 100000) (ht : ∀ (k : Nat) H', (k : Int) < n → Ex H H' → ET K tt ((wipe σ [i]).set i (some (.int k))) H' (p k))
    (he : ∀ (k : Nat) H', (k : Int) < n → p k = true → Ex H H' → ER K te ((wipe σ [i]).set i (some (.int k))) H' (f k)) :
    EL K (tLc (iRng1 (tCons ta tNil)) (gName i) tt te [i]) σ H (((List.range n.toNat).filter p).map f) := fun H0 e0 Q q => h.evI H0 e0 _ fun H1 e1 => by
  refine ⟨n, rfl, by omega, by omega, fun D hD => lc_range (lo := 0) (n := n.toNat) (fun j H' => Ex H1 H' ∧ Own K H' D (((List.range j).filter p).map f)) ⟨Evl.Ex.new hD, by simpa using Own.nil⟩ (fun j H' hj z => ?_) (fun H' z => ?_)⟩
  · rw [Int.zero_add]
    refine ⟨wipe1 _, ht j H' (by omega) (e0.trans (e1.trans z.1)) H' (Ex.refl H') _ fun H2 e2 => ?_⟩
    cases hp : p j with
    | false =>
      refine (if_neg Bool.false_ne_true).mpr ⟨z.1.trans e2, ?_⟩
      rw [List.range_succ, List.filter_append, List.filter_cons_of_neg (by simp [hp]), List.filter_nil, List.append_nil]
      exact z.2.mono e2
    | true =>
      refine (if_pos rfl).mpr (he j H2 (by omega) hp (e0.trans ((e1.trans z.1).trans e2)) H2 (Ex.refl H2) _ fun w H3 e3 rw' => ?_)
      obtain ⟨acc, h1, r1⟩ := (z.2.mono (e2.trans e3)).ex
      refine ⟨acc, h1, Evl.sz_lt ?_, ex_mut (z.1.trans (e2.trans e3)) hD, acc ++ [w], upd_same, ?_⟩
      · rw [r1.len, List.length_map]
        have := List.length_filter_le p (List.range j)
        rw [List.length_range] at this
        omega
      · rw [cut_upd, List.range_succ, List.filter_append, List.filter_cons_of_pos (by simp [hp]), List.filter_nil, List.map_append]
        exact r1.append (Reps.cons (rw'.imm (Tups.cut h1)) reps_nil)
  · exact q D H' (fresh_back e1 hD) (e1.trans z.1) z.2
theorem el_rfilter {n : Int} {ta : TE} {f : Nat → β} {p : Nat → Bool} [Flat β] (h : ER K ta σ H n) (hn0 : 0 ≤ n) (hz : n ≤ 100000) (ht : ∀ (k : Nat) H', (k : Int) < n → Ex H H' → ET K tt ((wipe σ [i]).set i (some (.int k))) H' (p k))
    (he : ∀ (k : Nat) H', (k : Int) < n → p k = true → Ex H H' → ER K te ((wipe σ [i]).set i (some (.int k))) H' (f k)) :
    EL K (tLc (iRng1 (tCons ta tNil)) (gName i) tt te [i]) σ H (((List.range n.toNat).filter p).map f) := el_rfilterN h (by omega) hz ht he
end
end Z
set_option Elab.async false
set_option linter.all false
set_option maxRecDepth 100000
set_option maxHeartbeats 2000000
namespace Z
open PySem PySem.Spec PyProof.Rows L2
/-! ### t[::-1], t a tuple; xs * n, xs a list -/
section
variable {prog : Program} {w : World} {A : Around} {E : Value → Shared → Prop} {s : Shared}
theorem places_rev (n : Nat) : Builtin.Slice.slicePlaces ((n : Int) - 1) (-1) (-1) = n := by
  unfold Builtin.Slice.slicePlaces
  rw [if_neg (by decide)]
  by_cases h : (n : Int) - 1 > -1
  · rw [if_pos h, show (-(-1) : Int) = 1 by decide, Int.ediv_one]
    omega
  · rw [if_neg h]
    omega
theorem sliceApplied_rev {sl : Addr} {vs : Value} {n : Nat} {Q : Int × Int × Nat → Shared → Prop} (hs : s.heap.IsSliceOf sl .none .none vs) (ps : IsPart vs (some (-1)))
    (h : Q ((n : Int) - 1, -1, n) s) : wpAny (model prog w) A (Builtin.Slice.sliceApplied (.ref sl) (pure (n : Int))) Q E s := by
  obtain ⟨os, hos, hcs, hds⟩ := id hs
  unfold Builtin.Slice.sliceApplied Builtin.Slice.sliceFields
  refine wpAny_bind (wpAny_bind (wpAny_field hos hds (x := .none) rfl (wpAny_bind (wpAny_field hos hds (x := .none) rfl (wpAny_bind (wpAny_field hos hds (x := vs) rfl (wpAny_pure ?_)))))))
  refine wpAny_bind (HT.slicePart_ ps ?_)
  show wpAny _ _ (if ((-1 : Int) == 0) = true then _ else _) _ _ s
  rw [if_neg (by decide)]
  refine wpAny_bind (HT.slicePart_ .none (wpAny_bind (HT.slicePart_ .none (wpAny_bind (wpAny_pure ?_)))))
  show wpAny _ _ (pure ((n : Int) - 1, (-1 : Int), Builtin.Slice.slicePlaces ((n : Int) - 1) (-1) (-1))) _ _ s
  rw [places_rev]
  exact wpAny_pure h
theorem pick_rev (xs : Array Value) : ((List.range xs.size).filterMap fun (k : Nat) => xs[(((xs.size : Int) - 1) + (k : Int) * (-1)).toNat]?).toArray = xs.toList.reverse.toArray := by
  have e : ((List.range xs.size).filterMap fun (k : Nat) => xs[(((xs.size : Int) - 1) + (k : Int) * (-1)).toNat]?) = ((List.range xs.size).map fun k => xs.size - 1 - k).filterMap (xs[·]?) := by
    rw [List.filterMap_map]
    congr 1
    funext k
    have : (((xs.size : Int) - 1) + (k : Int) * (-1)).toNat = xs.size - 1 - k := by omega
    show xs[_]? = xs[xs.size - 1 - k]?
    rw [this]
  rw [e, PySem.W.krv_range, List.filterMap_reverse, PySem.W.krv_all]
theorem getItem_tuple_rev {t sl : Addr} {items : Array Value} {vs : Value} {Q : Value → Shared → Prop} (ht : IsTup s.heap t items) (hs : s.heap.IsSliceOf sl .none .none vs) (ps : IsPart vs (some (-1)))
    (h : Q (.ref s.heap.objs.size) { s with heap := s.heap.push { cls := .type "tuple", data := .seq items.toList.reverse.toArray } })
    (hsz : items.size ≤ sizeLine) : wpAny (model prog w) A (getItem (.ref t) (.ref sl)) Q E s := by
  have htake : sizeOk (.seq items.toList.reverse.toArray) := by
    show items.toList.reverse.toArray.size ≤ sizeLine
    rw [List.size_toArray, List.length_reverse, Array.length_toList]
    exact hsz
  obtain ⟨os, hos, hcs, hds⟩ := id hs
  have hTs : s.TypeIs (.ref sl) "slice" := ⟨os, hos, hcs⟩
  unfold getItem
  try with_reducible refine wpAny_holding ?_
  first | refine wpAny_bind (wpAny_pure ?_) | skip
  refine wpAny_bind (wpAny_sequenceKey ht.typeIs (by decide) ?_)
  refine wpAny_bind (wpAny_callSpecial?_slot (name := Str.ofString "__getitem__") ht.typeIs PyProof.Rows.slot_tuple_getitem
    (wpAny_call_entry PyProof.Rows.slot_tuple_getitem ht.typeIs entry_tuple_getitem ?_ (args_tuple_getitem _ _)))
  show wpAny _ _ (Builtin.Tuple.tupleItemsOf (.ref t) >>= _) _ _ s
  refine wpAny_bind (PyProof.Rows.tupleItemsOf_ ht ?_)
  refine wpAny_bind (wpAny_typeOf hTs ?_)
  rw [if_pos (by decide)]
  refine wpAny_bind (sliceApplied_rev hs ps ?_)
  have hno : ¬ ((((items.size : Int) - 1 == 0) && (-1 : Int) == 1 && items.size == items.size) = true) := by
    intro q
    rw [Bool.and_eq_true, Bool.and_eq_true] at q
    exact absurd q.1.2 (by decide)
  show wpAny _ _ (if (((items.size : Int) - 1 == 0) && (-1 : Int) == 1 && items.size == items.size) = true then _ else _) _ _ s
  rw [if_neg hno, pick_rev]
  first
    | exact wpAny_bind (m := Builtin.Tuple.tupleExact _) (wpAny_newObj_type (wpAny_pure ⟨_, rfl, wpAny_pure h⟩) htake)
    | exact wpAny_bind (m := Builtin.Tuple.tupleExact _) (wpAny_newObj_type (wpAny_bind (wpAny_pure (wpAny_pure ⟨_, rfl, wpAny_pure h⟩))) htake)
    | exact wpAny_bind (wpAny_bind (m := Builtin.Tuple.tupleExact _) (wpAny_newObj_type (wpAny_pure (wpAny_pure ⟨_, rfl, wpAny_pure h⟩)) htake))
    | exact wpAny_bind (wpAny_bind (m := Builtin.Tuple.tupleExact _) (wpAny_newObj_type (wpAny_pure ⟨_, rfl, wpAny_pure h⟩) htake))
end
def tRevT (K : PySem.W.Frag) (te : TE) : TE := fun σ H Q => te σ H fun x H1 => ∃ a xs, x = .ref a ∧ SqT K H1 a xs ∧ ∀ p, H1 p = none → Q (.ref p) (upd H1 p (.tup xs.reverse))
theorem pe_revT {X : Cx} {e : Expr} {te : TE} {k : Nat} {p1 p2 p3 pos : Pos} (he : PE X e te) : PE X (.Subscript e (.Slice none none (some (.UnaryOp .USub (.Constant (.int 1) k p1) p2)) p3) pos) (tRevT X.K te) := by
  refine ⟨fun pins s σ H Q I h => ?_⟩
  refine Subscript_ (thn (he.run pins s σ H _ I h) fun v s1 ⟨x, H1, I1, r1, q1⟩ => ?_)
  obtain ⟨a, xs, ex, hx, q⟩ := q1
  subst ex
  cases r1
  have hst : PO X (some (.UnaryOp .USub (.Constant (.int 1) k p1) p2)) (tPart (tUn (rU fun i => .int (-i)) (tC (.int 1)))) := po_some (pe_un un_neg pe_int)
  refine wpAny_Slice (thn (po_none.run pins s1 σ H1 (fun o H2 => o = none ∧ H2 = H1) I1 ⟨rfl, rfl⟩) fun vl s2 ⟨l, H2, I2, pl, el, e2⟩ => ?_)
  subst el e2
  refine thn (po_none.run pins s2 σ H2 (fun o H3 => o = none ∧ H3 = H2) I2 ⟨rfl, rfl⟩) fun vu s3 ⟨u, H3, I3, pu, eu, e3⟩ => ?_
  subst eu e3
  refine thn (hst.run pins s3 σ H3 (fun o H4 => o = some (-1) ∧ H4 = H3) I3 ⟨1, rfl, -1, rfl, rfl, rfl⟩) fun vs s4 ⟨o, H4, I4, ps, eo, e4⟩ => ?_
  subst eo e4
  have I5 : Inv X pins σ H4 { s4 with heap := s4.heap.push { cls := .type "slice", data := .fields #[vl, vu, vs] } } := I4.kept (t' := s4.toks) fun b ob q => Heap.get?_push_of_some _ q
  obtain ⟨its, r, ht, hz⟩ := I5.tuple hx
  have hlen := r.length
  show wpAny (model X.prog X.w) X.A (subscriptTail e (.Slice none none (some (.UnaryOp .USub (.Constant (.int 1) k p1) p2)) p3) (.ref a) (.ref s4.heap.objs.size)) (EP X pins σ Q) X.xe { s4 with heap := s4.heap.push { cls := .type "slice", data := .fields #[vl, vu, vs] } }
  refine tail_any (ops := [.ref a, .ref s4.heap.objs.size]) ht.typeIs (PyProof.Rows.slot_tuple_getitem.lookup) ?_ (by with_unfolding_all rfl)
  cases pl
  cases pu
  refine getItem_tuple_rev ht (Heap.IsSliceOf.new _ .none .none vs) ps ?_ (by rw [List.size_toArray]; omega)
  refine ⟨.ref _, _, I5.laid (t' := s4.toks) (o := .tup xs.reverse) (fun b ob q => Heap.get?_push_of_some _ q) (Nat.le_refl _) ?_, rfl, q _ (I5.hok.fresh (Nat.le_refl _))⟩
  exact ⟨by rw [List.length_reverse]; exact hz, _, r.reverse, IsTup.new _ _⟩
theorem k_pe_revT {K : PySem.W.Frag} {X : Cx} {x : Expr} {te : TE} (e : X.K = K) (h : PE X x (tRevT X.K te)) : PE X x (tRevT K te) := e ▸ h
end Z
namespace Z
open PySem L2
open Evl (Ex)
open Dat
section
variable {K : PySem.W.Frag} {α : Type} [Dat α] {σ : L2.St} {H : Hp} {ta tb : TE}
theorem er_revT {xs : Tp α} (ha : ER K ta σ H xs) : ER K (tRevT K ta) σ H (show Tp α from List.reverse (α := α) xs) := fun H1 e Q q =>
  ha H1 e _ fun v H2 e2 r => by
    obtain ⟨a, vs, rfl, s, r⟩ := (Rep.tup r)
    exact ⟨a, vs, rfl, s, fun p hp => q _ _ (e2.trans (Evl.Ex.new hp)) (rep_tup upd_same (r.reverse.mono (Evl.Ex.new hp)))⟩
theorem reps_rep {vs : List V} {xs : List α} (r : Reps K H vs xs) (k : Nat) : Reps K H (List.replicate k vs).flatten (List.replicate k xs).flatten := by
  induction k with
  | zero => exact reps_nil
  | succ k ih =>
    rw [List.replicate_succ, List.replicate_succ, List.flatten_cons, List.flatten_cons]
    exact Reps.append r ih
theorem el_rep {xs : List α} {n : Int} (ha : EL K ta σ H xs) (hb : ER K tb σ H n) (h0 : n ≤ 100000) (h1 : -100000 ≤ n) (hz : xs.length * n.toNat ≤ 100000) : EL K (tOp rRep ta tb) σ H (List.replicate n.toNat xs).flatten := fun H1 e Q q =>
  ha H1 e _ fun p H2 hp e2 o => hb.evI H2 (e.trans e2) _ fun H3 e3 => by
    obtain ⟨vs, h, r⟩ := (o.mono e3).ex
    refine ⟨p, n, vs, rfl, rfl, h, by omega, by omega, Evl.sz_of (by rw [r.len]; exact hz), fun t ht => q t _ (fresh_back (e2.trans e3) ht) ((e2.trans e3).trans (Evl.Ex.new ht)) ⟨_, upd_same, ?_⟩⟩
    rw [cut_updn ht]
    exact reps_rep (r.mono (cut_ex (H := H3) (p := p))) _
end
end Z
set_option Elab.async false
set_option linter.all false
set_option maxRecDepth 100000
set_option maxHeartbeats 2000000
/-! Z: defs that may be called where an exception is handled (they walk nothing, raise nothing). -/
namespace Z
open PySem PySem.Spec PyProof.Rows L2
structure RoomW (k : Nat) (A : Around) : Prop where
  dp : A.depth + 3 * k + 5 < recursionLimit
  un : A.units + 16 * k + 200 < cLine
theorem RoomW.deeper {k : Nat} {A : Around} (r : RoomW (k + 1) A) (env : Env) : RoomW k (A.deeper env) :=
  ⟨by have := r.dp; show A.depth + 1 + 3 * k + 5 < _; omega, by have := r.un; show A.units + 3 + 16 * k + 200 < _; omega⟩
theorem RoomW.depth {k : Nat} {A : Around} (r : RoomW k A) : A.depth < recursionLimit := by have := r.dp; omega
theorem RoomW.units {k : Nat} {A : Around} (r : RoomW k A) : A.units + 64 < cLine := by have := r.un; omega
theorem RoomW.mono {j k : Nat} {A : Around} (r : RoomW k A) (h : j ≤ k) : RoomW j A := ⟨by have := r.dp; omega, by have := r.un; omega⟩
theorem roomW {j k : Nat} {A : Around} {v : Option Value} (r : Room k A) (h : j ≤ k) : RoomW j (A.mark v) := ⟨by have := r.dp; show A.depth + 3 * j + 5 < _; omega, by have := r.un; show A.units + 16 * j + 200 < _; omega⟩
structure FnW (P : Program) (w : World) (K : PySem.W.Frag) (mg : Str → Option Value) (base : Heap) (CX : CXT) (k : Nat) (f : Addr) (fd : FuncData) (ps : List Str) (sp : Sp) : Prop where
  len : ∀ vs H Q E, sp vs H Q E → vs.length = ps.length
  run : ∀ (A : Around) (outer : List Env) (s : Shared) (H : Hp) (args : Args) (us : List Value) (vs : List V) (Q : VK) (E : XK), RoomW k A → Env0 P w K mg base A outer s H → BindsTo s fd args (ps.zip us) → Vals vs us → sp vs H Q E →
    codeAny (model P w) A (.call (.ref f) args) (CR CX outer P w H s Q E) s
theorem FnW.ok {P : Program} {w : World} {K : PySem.W.Frag} {mg : Str → Option Value} {base : Heap} {CX : CXT} {k : Nat} {f : Addr} {fd : FuncData} {ps : List Str} {sp : Sp} (F : FnW P w K mg base CX k f fd ps sp) : FnOk P w K mg base CX k f fd ps sp :=
  ⟨F.len, fun A outer s H args us vs Q E hr => F.run A outer s H args us vs Q E ⟨hr.dp, hr.un⟩⟩
def cxW (CX : CXT) (P : Program) (w : World) (K : PySem.W.Frag) (mg : Str → Option Value) (base : Heap) (N : List Str) (qual : Str) (scope : Scope) (f : Addr) (cd : Value) (A : Around) (outer : List Env) (s : Shared) (H : Hp) (E : XK) : Cx :=
  { cxOf CX P w K mg base N qual scope f cd A outer s H E with calm := false }
theorem inv_startW {CX : CXT} {P : Program} {w : World} {K : PySem.W.Frag} {mg : Str → Option Value} {base : Heap} {N ps : List Str} {qual : Str} {scope : Scope} {f : Addr} {cd : Value} {A : Around} {outer : List Env} {s s1 : Shared} {H : Hp} {E : XK} {us : List Value} {vs : List V}
    (S : FnScope N ps scope) (e0 : Env0 P w K mg base A outer s H) (hl : vs.length = ps.length) (r : Vals vs us)
    (x : InCallC s s.heap.objs.size (bindL (envOfC qual scope s.heap.objs.size f cd).kindOf (ps.zip us) fun _ => none) (cellsFrom (s.heap.objs.size + 1) scope.names []) (bindC (envOfC qual scope s.heap.objs.size f cd).kindOf (ps.zip us) fun _ => none) s1) :
    Inv (cxW CX P w K mg base N qual scope f cd A outer s H E) [] (L2.start N vs) H s1 := by
  have hpl : ps.length ≤ N.length := by have := congrArg List.length S.pre; rw [List.length_take] at this; omega
  obtain ⟨h1, tk, rfl, hk⟩ := x.done
  have noA : ∀ b : Addr, b ∉ (cxW CX P w K mg base N qual scope f cd A outer s H E).ex := fun b z => absurd (show b ∈ ([] : List Addr) from z) (by simp)
  refine ⟨⟨e0.mod, S.kind, rfl, rfl, Nat.le_refl _, fun y z c h1 h2 => ?_, fun y hy => ?_, fun y c _ h => ?_, (fun z => Bool.noConfusion (show false = true from z)), Around.frames_deeper e0.frames, .inr ⟨rfl, rfl⟩, fun b z => absurd z (noA b), e0.bs, e0.bsz, fun b _ _ => noA b, fun b z => absurd z (noA b), e0.funs, e0.frf⟩,
    rfl, e0.bare, Un.kept hk, ⟨_, x.toInCall.ns, fun i y v h1 h2 h3 => ?_⟩, fun y c h => ⟨_, x.cell y c h⟩, e0.hok.fresh (Nat.le_refl _), fun y c h => ?_, fun q hq => absurd (show q ∈ ([] : List (Addr × Obj)) from hq) (by simp), e0.hok.kept hk, ?_⟩
  · exact name_of_addr x.apart (PySem.mem_of_lookup h1) (PySem.mem_of_lookup h2)
  · have hy : scope.names.lookup y = some .cell ∨ scope.names.lookup y = some .free := hy
    rcases hy with hy | hy
    · exact cell_has hy
    · exact absurd rfl (S.nofree _ (PySem.mem_of_lookup hy))
  · exact Nat.le_of_lt (x.above y c (PySem.mem_of_lookup h))
  · have hi : i < vs.length := by
      unfold L2.start at h2
      by_cases hi : i < vs.length
      · exact hi
      · rw [List.getElem?_append_right (by simpa using hi)] at h2
        rw [List.getElem?_replicate] at h2
        split at h2 <;> cases h2
    have ha : vs[i]? = some v := by
      unfold L2.start at h2
      rw [List.getElem?_append_left (by simpa using hi), List.getElem?_map] at h2
      cases e : vs[i]? with
      | none => rw [e] at h2; cases h2
      | some a => rw [e] at h2; cases h2; rfl
    obtain ⟨u, hu, rv⟩ := r.get ha
    have hp : ps[i]? = some y := by
      rw [← S.pre, List.getElem?_take_of_lt (by omega)]; exact h1
    have ndP : ps.Nodup := by rw [← S.pre]; exact S.nd.sublist (List.take_sublist _ _)
    refine ⟨u, rv, ?_⟩
    rcases S.par y (List.mem_of_getElem? hp) with k | k
    · exact .inl ⟨k, bindL_get ndP hp hu k⟩
    · obtain ⟨c, e⟩ := cell_has (n := s.heap.objs.size + 1) k
      refine .inr ⟨.inl k, c, e, ?_⟩
      have q := x.cell y c e
      rw [bindC_get ndP hp hu (by show scope.names.lookup y ≠ _; rw [k]; decide)] at q
      exact q
  · exact e0.hok.fresh (Nat.le_of_lt (x.above y c (PySem.mem_of_lookup h)))
  · unfold L2.start
    show _ = N.length
    rw [List.length_append, List.length_map, List.length_replicate]
    omega
theorem fun_okW {CX : CXT} {P : Program} {w : World} {K : PySem.W.Frag} {mg : Str → Option Value} {base : Heap} {k : Nat} {f : Addr} {fd : FuncData} {x qual : Str} {st : Stmt} {N ps : List Str} {sp : Sp} (F : Fun K x qual st f fd) (S : FnScope N ps (defScope st))
    (len : ∀ vs H Q E, sp vs H Q E → vs.length = ps.length)
    (hbody : ∀ (cdv : Value) (A : Around) (outer : List Env) (s : Shared) (H : Hp) (vs : List V) (Q : VK) (E : XK), RoomW k (A.deeper (envOfC qual (defScope st) s.heap.objs.size f cdv)) → sp vs H Q E →
      ∃ t, PSs (cxW CX P w K mg base N qual (defScope st) f cdv A outer s H E) (defBody st) t ∧ t { nx := fun _ H' => Q .non H', rt := Q } (L2.start N vs) H) : FnW P w K mg base CX (k + 1) f fd ps sp := by
  obtain ⟨oc, od, kV, doc, pm, an, cdv, ct, osl, rfl, lk, hcd⟩ := F.ex
  refine ⟨len, fun A outer s H args us vs Q E hr e0 hb r hsp => ?_⟩
  have hl := len _ _ _ _ hsp
  have KX : K.In s.heap := e0.mod.kin.keeps fun b o e => (e0.bs b o e).1
  have lim : s.heap.NoLimit := e0.mod.nolimit.keeps fun b o e => (e0.bs b o e).1
  have hkind : ∀ y ∈ ps.zip us, (defScope st).names.lookup y.1 = some .local ∨ ((defScope st).names.lookup y.1 = some .cell ∧ ((cellsFrom (s.heap.objs.size + 1) (defScope st).names []).lookup y.1).isSome = true) := fun ⟨n, v⟩ hy => by
    rcases S.par n (List.of_mem_zip hy).1 with q | q
    · exact .inl q
    · exact .inr ⟨q, PySem.W.cellsFrom_some _ _ _ (.inl q)⟩
  refine codeAny_call_function hr.depth (KX _ _ lk) rfl S.co S.gen rfl (PySem.W.codeRec_of KX hcd) (hb _ _ _ _ ?_)
  refine wpAny_newFunctionEnv_cells S.kind hkind fun env he s1 x => ?_
  subst he
  refine ⟨lim.keeps x.toInCall.keep, codeAny_func ?_⟩
  obtain ⟨t, ht, hq⟩ := hbody cdv A outer s H vs Q E (hr.deeper _) hsp
  have I : Inv (cxW CX P w K mg base N qual (defScope st) f cdv A outer s H E) [] (L2.start N vs) H s1 := inv_startW S e0 hl r x
  refine wpAny_mono (ht.run [] s1 (L2.start N vs) H _ I hq) (fun fl s' hs => ?_) fun e s' hs => hs
  have fin : ∀ {σ' : L2.St} {H' : Hp} {v : V} {u : Value}, Inv (cxW CX P w K mg base N qual (defScope st) f cdv A outer s H E) [] σ' H' s' → RelV v u → Q v H' → CE outer P w H s Q u s' :=
    fun {σ' H' v u} J rv q => ⟨v, H', J.os, J.bare, J.base, J.hok, rv, q⟩
  cases fl with
  | ret u =>
    obtain ⟨v, σ', H', J, rv, q⟩ := hs
    exact fin J rv q
  | next =>
    obtain ⟨σ', H', J, q⟩ := hs
    exact fin (v := V.non) (u := Value.none) J rfl q
  | brk =>
    obtain ⟨_, _, _, q⟩ := hs
    exact False.elim q
  | cont =>
    obtain ⟨_, _, _, q⟩ := hs
    exact False.elim q
section
variable {X : Cx} {CX : CXT} {k : Nat} {f C : Addr} {fd : FuncData} {ps : List Str} {sp : Sp} {E : XK} {x m : Str} {q pos apos : Pos} {e o : Expr} {es : List Expr} {ta : TE} {t : TA}
theorem run_fnW {pins : List (Addr × Obj)} {σ : L2.St} {H : Hp} {s : Shared} {Q : VK} {us : List Value} {vs : List V} (F : FnW X.prog X.w X.K X.mg X.base CX k f fd ps sp) (hr : RoomW k X.A) (hb : Binds X.K fd ps []) (hx : Passes CX X E)
    (I : Inv X pins σ H s) (r : Vals vs us) (h : sp vs H Q E) : wpAny (model X.prog X.w) X.A (call (.ref f) us) (EP X pins σ Q) X.xe s := by
  have hl : us.length = ps.length := by rw [← r.length]; exact F.len _ _ _ _ h
  have b := hb s us I.kIn (by rw [List.append_nil]; exact hl)
  rw [List.append_nil] at b
  refine wpAny_call (codeAny_mono (F.run X.A X.stack s H ⟨us, []⟩ us vs Q E hr I.env0 b r h) fun r s' hq => ?_)
  cases r with
  | error e => exact hx pins σ H s e s' I hq
  | ok fl =>
    cases fl with
    | ret u => exact I.after hq
    | next => exact False.elim hq
    | brk => exact False.elim hq
    | cont => exact False.elim hq
theorem pe_callW (F : FnW X.prog X.w X.K X.mg X.base CX k f fd ps sp) (hr : RoomW k X.A) (hg : Gl X x) (hm : X.mg x = some (.ref f)) (hk : PySem.W.keepIn X.K (.ref f) = true) (hb : Binds X.K fd ps []) (hx : Passes CX X E)
    (ha : PA X (e :: es) t) (hdb : (x == ("__debug__" : Str)) = false := by decide) (he : starEach (e :: es) X.env = (false, eval e X.env) :: starEach es X.env := by rfl) (hpl : (backTo pos (starEach es X.env)).any (·.1) = false := by rfl) :
    PE X (.Call (.Name x q) (e :: es) [] pos) (tCall sp [] E t) := by
  refine ⟨fun pins s σ H Q I h => ?_⟩
  refine wpAny_Call_Name_kw (ld_glob I hg hm ?_ hdb)
  refine PySem.W.callWith_K (h₀ := X.base) I.ok.mod.kin hk (thn (ha.run pos pins s σ H _ I h) fun us s1 ⟨vs, H1, I1, r, q⟩ => ⟨I1.kIn, ?_⟩) he hpl
  have q : sp (vs ++ []) H1 Q E := q
  rw [List.append_nil] at q
  exact run_fnW F hr hb hx I1 r q
end
end Z
set_option Elab.async false
set_option linter.all false
set_option maxRecDepth 100000
set_option maxHeartbeats 2000000
set_option autoImplicit false
namespace Z
open PySem L2
open Evl (Ex)
open Dat
section
variable {K : PySem.W.Frag} {α β γ δ : Type} [Dat α] [Dat β] [Dat γ] [Dat δ] {σ : L2.St} {G H H' : Hp} {te ta tb tc td : TE} {tt tu : TT} {i j : Int}
theorem er_add (ha : ER K ta σ H i) (hb : ER K tb σ H j) : ER K (tOp (rI0 fun a b => .int (a + b)) ta tb) σ H (i + j) := er_I0 (g := fun a b => a + b) ha hb
theorem er_sub (ha : ER K ta σ H i) (hb : ER K tb σ H j) : ER K (tOp (rI0 fun a b => .int (a - b)) ta tb) σ H (i - j) := er_I0 (g := fun a b => a - b) ha hb
theorem er_mul (ha : ER K ta σ H i) (hb : ER K tb σ H j) (hc : CMul i j) : ER K (tOp (rI CMul fun a b => .int (a * b)) ta tb) σ H (i * j) := er_I (g := fun a b => a * b) ha hb hc
theorem er_fdiv (ha : ER K ta σ H i) (hb : ER K tb σ H j) (hc : CDiv i j) : ER K (tOp (rI CDiv fun a b => .int (a / b)) ta tb) σ H (i / j) := er_I (g := fun a b => a / b) ha hb hc
theorem er_mod (ha : ER K ta σ H i) (hb : ER K tb σ H j) (hc : 0 < j) : ER K (tOp (rI (fun _ j => 0 < j) fun a b => .int (a % b)) ta tb) σ H (i % j) := er_I (g := fun a b => a % b) ha hb hc
theorem er_pow (ha : ER K ta σ H i) (hb : ER K tb σ H j) (hc : CPow i j) : ER K (tOp (rI CPow fun a b => .int (a ^ b.toNat)) ta tb) σ H (i ^ j.toNat) := er_I (g := fun a b => a ^ b.toNat) ha hb hc
theorem er_lt (ha : ER K ta σ H i) (hb : ER K tb σ H j) : ER K (tOp (rI0 fun a b => .bl (decide (a < b))) ta tb) σ H (decide (i < j)) := er_IB (g := fun a b => decide (a < b)) ha hb
theorem er_le (ha : ER K ta σ H i) (hb : ER K tb σ H j) : ER K (tOp (rI0 fun a b => .bl (decide (a ≤ b))) ta tb) σ H (decide (i ≤ j)) := er_IB (g := fun a b => decide (a ≤ b)) ha hb
theorem er_gt (ha : ER K ta σ H i) (hb : ER K tb σ H j) : ER K (tOp (rI0 fun a b => .bl (decide (b < a))) ta tb) σ H (decide (j < i)) := er_IB (g := fun a b => decide (b < a)) ha hb
theorem er_ge (ha : ER K ta σ H i) (hb : ER K tb σ H j) : ER K (tOp (rI0 fun a b => .bl (decide (b ≤ a))) ta tb) σ H (decide (j ≤ i)) := er_IB (g := fun a b => decide (b ≤ a)) ha hb
theorem er_isN : ER K ta σ H () → ER K (tOp (fun x y H Q => y = .non ∧ Q (.bl (decide (x = .non))) H) ta (tC .non)) σ H true := fun ha H1 e Q q => ha H1 e _ fun v H2 e2 r => ⟨rfl, by rw [(Rep.unit r)]; exact q _ H2 e2 (rep_bool _)⟩
/-- a list of ints that is read, the script -/
theorem er_seqix {xs : List Int} {a : Addr} (hs : SqL K G a (xs.map V.int)) (e : Ex G H) (ha : EV K ta σ H (.ref a)) (hb : ER K tb σ H i) {x : Int} (hx : atI xs i = some x) : ER K (tOp (rIxL K) ta tb) σ H x :=
  er_ixL (xs := xs) (ha.er (rep_list (Evl.ex_l e hs) (reps_ints xs))) hb hx
theorem atI_map {xs : List α} {f : α → β} {i : Int} {x : α} (h : atI xs i = some x) : atI (xs.map f) i = some (f x) := by
  unfold atI at h ⊢
  rw [List.length_map]
  cases e : ixN xs.length i with
  | none => rw [e] at h; cases h
  | some j =>
    rw [e] at h
    show (xs.map f)[j]? = some (f x)
    rw [List.getElem?_map, show xs[j]? = some x from h]
    rfl
theorem atI_nn {xs : List α} {i : Int} (h0 : 0 ≤ i) (h1 : i < xs.length) : ∃ x, atI xs i = some x ∧ xs[i.toNat]? = some x := by
  have hl : i.toNat < xs.length := by omega
  refine ⟨xs[i.toNat], ?_, by simp [hl]⟩
  have e : ixN xs.length i = some i.toNat := by
    unfold ixN
    rw [if_pos h0, if_pos h1]
  unfold atI
  rw [e]
  simp [hl]
theorem atI_toNat {xs : List α} {i : Int} {x : α} (h0 : 0 ≤ i) (h : xs[i.toNat]? = some x) : atI xs i = some x := by
  have hl := (List.getElem?_eq_some_iff.mp h).1
  have e : ixN xs.length i = some i.toNat := by
    unfold ixN
    rw [if_pos h0, if_pos (by omega)]
  unfold atI
  rw [e]
  exact h
theorem atI_m1 {xs : List α} {x : α} (h : xs.getLast? = some x) : atI xs (-1) = some x := by
  have hne : xs ≠ [] := by intro e; rw [e] at h; cases h
  obtain ⟨ys, rfl⟩ : ∃ ys, xs = ys ++ [x] := by
    refine ⟨xs.dropLast, ?_⟩
    have e := List.dropLast_concat_getLast hne
    rw [List.getLast?_eq_some_getLast hne] at h
    rw [← Option.some.inj h]
    exact e.symm
  exact atI_last ys x
/-! ### isinstance -/
theorem kitOf {a b : String} {r : Bool} (h : kitB a b = some r) : PySem.W.kitOne K (.type a) (.type b) = some r := kit_ty h
theorem tyx_list {v : V} {xs : List α} (h : Rep K H v xs) : TyX K H v (.type "list") := by
  obtain ⟨a, vs, rfl, s, _⟩ := h.list
  rcases s with (s | ⟨o, s⟩) | ⟨o, its, n, s, c, _⟩
  · exact .base (.lst s)
  · exact .base (.frz s)
  · exact .kList s c
theorem tyx_tup {v : V} {xs : Tp α} (h : Rep K H v xs) : TyX K H v (.type "tuple") := by
  obtain ⟨a, vs, rfl, s, _⟩ := h.tup
  rcases s with (s | ⟨o, s⟩) | ⟨o, its, n, s, c, _⟩
  · exact .base (.tup s)
  · exact .fTuple s
  · exact .kTuple s c
theorem tyx_pair {v : V} {x : α × β} (h : Rep K H v x) : TyX K H v (.type "tuple") := by
  obtain ⟨a, u, w, rfl, s, _⟩ := h.pair
  rcases s with (s | ⟨o, s⟩) | ⟨o, its, n, s, c, _⟩
  · exact .base (.tup s)
  · exact .fTuple s
  · exact .kTuple s c
theorem tyx_int {v : V} {x : Int} (h : Rep K H v x) : TyX K H v (.type "int") := by rw [h.int]; exact .base (.int x)
theorem tyx_bool {v : V} {x : Bool} (h : Rep K H v x) : TyX K H v (.type "bool") := by rw [h.bool]; exact .base (.bl x)
theorem tyx_str {v : V} {x : Str} (h : Rep K H v x) : TyX K H v (.type "str") := by rw [h.str]; exact .base (.str x)
theorem er_isi {x : α} {n m : String} {b : Bool} (ty : ∀ H v, Rep K H v x → TyX K H v (.type n)) (hk : kitB n m = some b) (ha : ER K ta σ H x) : ER K (tCB (rIsi K) (tCons ta (tCons (tC (.ty m)) tNil))) σ H b := fun H1 e Q q =>
  ha H1 e _ fun v H2 e2 r => ⟨v, .ty m, .type n, .type m, b, rfl, .ty m, ty H2 v r, kitOf hk, q _ H2 e2 (rep_bool _)⟩
theorem er_isi_list {xs : List α} (ha : ER K ta σ H xs) : ER K (tCB (rIsi K) (tCons ta (tCons (tC (.ty "list")) tNil))) σ H true := er_isi (fun _ _ => tyx_list) (by decide +kernel) ha
theorem er_isi_tup {xs : Tp α} (ha : ER K ta σ H xs) : ER K (tCB (rIsi K) (tCons ta (tCons (tC (.ty "tuple")) tNil))) σ H true := er_isi (fun _ _ => tyx_tup) (by decide +kernel) ha
theorem er_isi_pair {x : α × β} (ha : ER K ta σ H x) : ER K (tCB (rIsi K) (tCons ta (tCons (tC (.ty "tuple")) tNil))) σ H true := er_isi (fun _ _ => tyx_pair) (by decide +kernel) ha
theorem er_isi_int (ha : ER K ta σ H i) : ER K (tCB (rIsi K) (tCons ta (tCons (tC (.ty "int")) tNil))) σ H true := er_isi (fun _ _ => tyx_int) (by decide +kernel) ha
theorem er_isi_intb (ha : ER K ta σ H i) : ER K (tCB (rIsi K) (tCons ta (tCons (tC (.ty "bool")) tNil))) σ H false := er_isi (fun _ _ => tyx_int) (by decide +kernel) ha
theorem er_isi_bool {b : Bool} (ha : ER K ta σ H b) : ER K (tCB (rIsi K) (tCons ta (tCons (tC (.ty "bool")) tNil))) σ H true := er_isi (fun _ _ => tyx_bool) (by decide +kernel) ha
theorem er_isi_booli {b : Bool} (ha : ER K ta σ H b) : ER K (tCB (rIsi K) (tCons ta (tCons (tC (.ty "int")) tNil))) σ H true := er_isi (fun _ _ => tyx_bool) (by decide +kernel) ha
/-! ### [x] * n -/
theorem el_rep1 {x : α} {n : Int} (ha : EL K ta σ H [x]) (hb : ER K tb σ H n) (h0 : n ≤ 100000) (h1 : -100000 ≤ n) : EL K (tOp rRep ta tb) σ H (List.replicate n.toNat x) := fun H1 e Q q =>
  ha H1 e _ fun p H2 hp e2 o => hb.evI H2 (e.trans e2) _ fun H3 e3 => by
    obtain ⟨vs, h, r⟩ := (o.mono e3).ex
    obtain ⟨v, ws, rfl, r1, r2⟩ := Reps.inv r
    obtain rfl := Reps.nilI r2
    refine ⟨p, n, [v], rfl, rfl, h, by omega, by omega, Evl.sz_of (by rw [List.length_singleton]; omega), fun t ht => q t _ (fresh_back (e2.trans e3) ht) ((e2.trans e3).trans (Evl.Ex.new ht)) ⟨_, upd_same, ?_⟩⟩
    rw [cut_updn ht]
    have r1' := r1.mono (cut_ex (H := H3) (p := p))
    generalize n.toNat = k
    induction k with
    | zero => exact reps_nil
    | succ k ih =>
      rw [List.replicate_succ, List.replicate_succ, List.flatten_cons]
      exact Reps.append (Reps.cons r1' reps_nil) ih
end
/-! ### equality of data -/
section
variable {α : Type} [Dat α]
theorem eqvAll_map [DecidableEq α] [DatEq α] : ∀ xs ys : List α, PyData.eqvAll (xs.map enc) (ys.map enc) = decide (xs = ys)
  | [], [] => by simp [PyData.eqvAll]
  | [], y :: ys => by simp [PyData.eqvAll]
  | x :: xs, [] => by simp [PyData.eqvAll]
  | x :: xs, y :: ys => by
    show (PyData.eqv (enc x) (enc y) && PyData.eqvAll (xs.map enc) (ys.map enc)) = _
    rw [DatEq.eqv, eqvAll_map xs ys]
    by_cases h : x = y <;> by_cases h' : xs = ys <;> simp [h, h']
theorem lay_map [DecidableEq α] [DatEq α] : ∀ xs : List α, PyData.canLayAll0 (xs.map enc) = true
  | [] => rfl
  | x :: xs => by
    show ((enc x).canLay0 && PyData.canLayAll0 (xs.map enc)) = true
    rw [DatEq.lay, lay_map xs] <;> rfl
end
instance : DatEq Int := ⟨fun _ => rfl, fun x y => by
  show PyData.eqv (.int x) (.int y) = _
  simp [PyData.eqv, Bool.beq_eq_decide_eq]⟩
instance : DatEq Bool := ⟨fun _ => rfl, fun x y => by
  show PyData.eqv (.bool x) (.bool y) = _
  simp [PyData.eqv, Bool.beq_eq_decide_eq]⟩
instance {α : Type} [Dat α] [DecidableEq α] [DatEq α] : DatEq (List α) := ⟨fun xs => by
  show (PyData.list (xs.map enc)).canLay0 = true
  exact lay_map xs, fun xs ys => by
  show PyData.eqv (.list (xs.map enc)) (.list (ys.map enc)) = _
  rw [PyData.eqv]
  exact eqvAll_map xs ys⟩
instance {α : Type} [Dat α] [DecidableEq α] [DatEq α] : DatEq (Tp α) := ⟨fun xs => by
  show (PyData.tuple (List.map enc xs)).canLay0 = true
  exact lay_map (α := α) xs, fun xs ys => by
  show PyData.eqv (.tuple (List.map enc xs)) (.tuple (List.map enc ys)) = _
  rw [PyData.eqv]
  exact eqvAll_map (α := α) xs ys⟩
instance {α β : Type} [Dat α] [Dat β] [DecidableEq α] [DecidableEq β] [DatEq α] [DatEq β] : DatEq (α × β) := ⟨fun x => by
  show ((enc x.1).canLay0 && ((enc x.2).canLay0 && true)) = true
  rw [DatEq.lay, DatEq.lay] <;> rfl, fun x y => by
  show PyData.eqv (.tuple [enc x.1, enc x.2]) (.tuple [enc y.1, enc y.2]) = _
  rw [PyData.eqv]
  show (PyData.eqv (enc x.1) (enc y.1) && (PyData.eqv (enc x.2) (enc y.2) && true)) = _
  rw [DatEq.eqv, DatEq.eqv]
  obtain ⟨x1, x2⟩ := x
  obtain ⟨y1, y2⟩ := y
  by_cases h : x1 = y1 <;> by_cases h' : x2 = y2 <;> simp [h, h']⟩
theorem depth_map {α : Type} [Dat α] {n : Nat} [Deep α n] : ∀ xs : List α, PyData.depthAll (xs.map enc) ≤ n
  | [] => by
    show PyData.depthAll [] ≤ n
    rw [PyData.depthAll]
    exact Nat.zero_le _
  | x :: xs => by
    show PyData.depthAll (enc x :: xs.map enc) ≤ n
    rw [PyData.depthAll]
    exact Nat.max_le.mpr ⟨Deep.dep x, depth_map xs⟩
instance : Deep Int 0 := ⟨fun x => by
  show PyData.depth (.int x) ≤ 0
  rw [PyData.depth]
  exact Nat.le_refl _⟩
instance : Deep Bool 0 := ⟨fun x => by
  show PyData.depth (.bool x) ≤ 0
  rw [PyData.depth]
  exact Nat.le_refl _⟩
instance : Deep Str 0 := ⟨fun x => by
  show PyData.depth (.str x) ≤ 0
  rw [PyData.depth]
  exact Nat.le_refl _⟩
instance {α : Type} [Dat α] {n : Nat} [Deep α n] : Deep (List α) (n + 1) := ⟨fun xs => by
  show PyData.depth (.list (xs.map enc)) ≤ n + 1
  rw [PyData.depth]
  exact Nat.succ_le_succ (depth_map xs)⟩
instance {α : Type} [Dat α] {n : Nat} [Deep α n] : Deep (Tp α) (n + 1) := ⟨fun xs => by
  show PyData.depth (.tuple (List.map enc xs)) ≤ n + 1
  rw [PyData.depth]
  exact Nat.succ_le_succ (depth_map (α := α) xs)⟩
instance {α β : Type} [Dat α] [Dat β] {n m : Nat} [Deep α n] [Deep β m] : Deep (α × β) (max n m + 1) := ⟨fun x => by
  show PyData.depth (.tuple [enc x.1, enc x.2]) ≤ max n m + 1
  rw [PyData.depth, PyData.depthAll, PyData.depthAll, PyData.depthAll]
  have h1 := Deep.dep (n := n) x.1
  have h2 := Deep.dep (n := m) x.2
  omega⟩
end Z
set_option Elab.async false
set_option linter.all false
set_option maxRecDepth 100000
set_option maxHeartbeats 2000000
set_option autoImplicit false
namespace Z
open PySem L2
open Evl (Ex)
open Dat
section
variable {K : PySem.W.Frag} {α β γ δ : Type} [Dat α] [Dat β] [Dat γ] [Dat δ] {σ : L2.St} {G H H' : Hp} {te ta tb tc td : TE} {tt tu : TT} {i j : Int} {t u : TS} {D : Ends}
theorem dpall_get {vs : List V} {ds : List PyData} (h : DqAll K H vs ds) {j : Nat} {d : PyData} (hd : ds[j]? = some d) : ∃ v, vs[j]? = some v ∧ Dq K H v d := by
  induction vs generalizing ds j with
  | nil => cases h; cases hd
  | cons v vs ih =>
    cases h with
    | cons h1 h2 =>
      cases j with
      | zero => cases hd; exact ⟨v, rfl, h1⟩
      | succ j => exact ih h2 hd
theorem dpall_at {vs : List V} {ds : List PyData} (h : DqAll K H vs ds) {i : Int} {d : PyData} (hd : atI ds i = some d) : ∃ v, atI vs i = some v ∧ Dq K H v d := by
  unfold atI at hd ⊢
  rw [DqAll.len h]
  cases e : ixN ds.length i with
  | none => rw [e] at hd; cases hd
  | some j =>
    rw [e] at hd
    exact dpall_get h hd
/-- a list that stands tracked, new or held -/
def EM (K : PySem.W.Frag) (te : TE) (σ : L2.St) (H : Hp) (xs : List α) : Prop := ∀ H1, Ex H H1 → ∀ Q : VK, (∀ p H2, Ex H1 H2 → Own K H2 p xs → Q (.ref p) H2) → te σ H1 Q
theorem EL.em {xs : List α} (h : EL K te σ H xs) : EM K te σ H xs := fun H1 e Q q => h H1 e Q fun p H2 _ e2 o => q p H2 e2 o
theorem em_own {n : Nat} {p : Addr} {xs : List α} (h : σ[n]? = some (some (.ref p))) (r : Own K G p xs) (e : Ex G H) : EM K (tVar n) σ H xs := fun H1 e1 Q q => ⟨_, h, q p H1 (Ex.refl H1) (r.mono (e.trans e1))⟩
theorem el_add {xs ys : List α} (ha : EM K ta σ H xs) (hb : EM K tb σ H ys) (hl : xs.length + ys.length ≤ 100000) : EL K (tOp rCat ta tb) σ H (xs ++ ys) := fun H1 e Q q =>
  ha H1 e _ fun p H2 e2 o => hb H2 (e.trans e2) _ fun r H3 e3 o2 => by
    obtain ⟨vs, h1, r1⟩ := (o.mono e3).ex
    obtain ⟨ws, h2, r2⟩ := o2.ex
    refine ⟨p, r, vs, ws, rfl, rfl, h1, h2, Evl.sz_of (by rw [r1.len, r2.len]; exact hl), fun t ht => q t _ (fresh_back (e2.trans e3) ht) ((e2.trans e3).trans (Evl.Ex.new ht)) ⟨_, upd_same, ?_⟩⟩
    rw [cut_updn ht]
    exact (r1.mono cut_ex).append (r2.mono cut_ex)
/-- truth of a list -/
theorem et_truL {xs : List α} (h : ER K te σ H xs) : ET K (fun σ H Q => te σ H fun x H' => ∃ k, TruV K x H' k ∧ Q k H') σ H (!xs.isEmpty) := fun H1 e Q q => h H1 e _ fun v H2 e2 r => by
  obtain ⟨a, vs, rfl, s, r⟩ := Rep.list r
  refine ⟨_, .inl ⟨vs, s, rfl⟩, ?_⟩
  have : vs.isEmpty = xs.isEmpty := by
    have e := r.len
    cases vs <;> cases xs <;> first | rfl | simp at e
  rw [this]
  exact q H2 e2
theorem et_orU {a b : Bool} (h1 : ET K tt σ H a) (h2 : ET K tu σ H b) : ET K (tOr tt tu) σ H (a || b) := et_or h1 fun _ => h2
theorem et_andU {a b : Bool} (h1 : ET K tt σ H a) (h2 : ET K tu σ H b) : ET K (tAnd tt tu) σ H (a && b) := et_and h1 fun _ => h2
theorem er_orU {a b : Bool} (h1 : ER K ta σ H a) (h2 : ER K tb σ H b) : ER K (tOrV ta tb) σ H (a || b) := er_orV h1 fun _ => h2
theorem er_andU {a b : Bool} (h1 : ER K ta σ H a) (h2 : ER K tb σ H b) : ER K (tAndV ta tb) σ H (a && b) := er_andV h1 fun _ => h2
/-! ### with no word of the type: the shape of the datum says it -/
theorem dl_tyx {v : V} {ds : List PyData} (h : Dq K H v (.list ds)) : TyX K H v (.type "list") := by
  cases h with
  | lst s r =>
    rcases s with (s | ⟨o, s⟩) | ⟨o, its, n, s, c, _⟩
    · exact .base (.lst s)
    · exact .base (.frz s)
    · exact .kList s c
theorem dt_tyx {v : V} {ds : List PyData} (h : Dq K H v (.tuple ds)) : TyX K H v (.type "tuple") := by
  cases h with
  | tup s r => exact .base (.tup s)
theorem ed_isi {d : PyData} {n m : String} {b : Bool} (ty : ∀ H v, Dq K H v d → TyX K H v (.type n)) (hk : kitB n m = some b) (ha : ED K ta σ H d) : ER K (tCB (rIsi K) (tCons ta (tCons (tC (.ty m)) tNil))) σ H b := fun H1 e Q q =>
  ha H1 e _ fun v H2 e2 r => ⟨v, .ty m, .type n, .type m, b, rfl, .ty m, ty H2 v r, kitOf hk, q _ H2 e2 (rep_bool _)⟩
theorem ed_isi_list {ds : List PyData} (ha : ED K ta σ H (.list ds)) : ER K (tCB (rIsi K) (tCons ta (tCons (tC (.ty "list")) tNil))) σ H true := ed_isi (fun _ _ => dl_tyx) (by decide +kernel) ha
theorem ed_isi_tup {ds : List PyData} (ha : ED K ta σ H (.tuple ds)) : ER K (tCB (rIsi K) (tCons ta (tCons (tC (.ty "tuple")) tNil))) σ H true := ed_isi (fun _ _ => dt_tyx) (by decide +kernel) ha
theorem ed_ixL {ds : List PyData} {k : Int} {d : PyData} (ha : ED K ta σ H (.list ds)) (hb : ER K tb σ H k) (hx : atI ds k = some d) : ED K (tOp (rIxL K) ta tb) σ H d := fun H1 e Q q =>
  ha H1 e _ fun v H2 e2 r => hb.evI H2 (e.trans e2) _ fun H3 e3 => by
    cases r with
    | lst s r =>
      obtain ⟨w, hw, rw'⟩ := dpall_at r hx
      exact ⟨_, _, k, w, rfl, rfl, Evl.ex_l e3 s, hw, q _ H3 (e2.trans e3) (dp_mono e3 _ _ rw')⟩
theorem ed_ixT {ds : List PyData} {k : Int} {d : PyData} (ha : ED K ta σ H (.tuple ds)) (hb : ER K tb σ H k) (hx : atI ds k = some d) : ED K (tOp (rIxT K) ta tb) σ H d := fun H1 e Q q =>
  ha H1 e _ fun v H2 e2 r => hb.evI H2 (e.trans e2) _ fun H3 e3 => by
    cases r with
    | tup s r =>
      obtain ⟨w, hw, rw'⟩ := dpall_at r hx
      exact ⟨_, _, k, w, rfl, rfl, SqT.of (e3 _ _ s), hw, q _ H3 (e2.trans e3) (dp_mono e3 _ _ rw')⟩
theorem atI_mapE {α : Type} {xs : List α} {f : α → PyData} {i : Int} {x : α} {d : PyData} (h : atI xs i = some x) (e : f x = d) : atI (xs.map f) i = some d := by
  unfold atI at h ⊢
  rw [List.length_map]
  cases q : ixN xs.length i with
  | none => rw [q] at h; cases h
  | some j =>
    rw [q] at h
    show (xs.map f)[j]? = some d
    have h : xs[j]? = some x := h
    rw [List.getElem?_map, h, ← e]
    rfl
/-! ### tests whose answer is known -/
theorem q_ifF {b : Bool} (h : ET K tt σ H b) (hb : b = false) (k : ∀ H', Ex H H' → u D σ H') : tSeq (tIfS tt t tNext) u D σ H := q_if h (fun z => absurd z (by rw [hb]; decide)) fun _ => k
theorem q_ifT {b : Bool} (h : ET K tt σ H b) (hb : b = true) (k : ∀ H', Ex H H' → t { D with nx := u D } σ H') : tSeq (tIfS tt t tNext) u D σ H := q_if h (fun _ => k) fun z => absurd z (by rw [hb]; decide)
theorem s_ifF {b : Bool} (h : ET K tt σ H b) (hb : b = false) (k : ∀ H', Ex H H' → u D σ H') : tIfS tt t u D σ H := s_if h (fun z => absurd z (by rw [hb]; decide)) fun _ => k
theorem s_ifT {b : Bool} (h : ET K tt σ H b) (hb : b = true) (k : ∀ H', Ex H H' → t D σ H') : tIfS tt t u D σ H := s_if h (fun _ => k) fun z => absurd z (by rw [hb]; decide)
theorem atI_ofN {xs : List α} {k : Nat} {x : α} (h : xs[k]? = some x) : atI xs (k : Int) = some x := by
  have hl : k < xs.length := (List.getElem?_eq_some_iff.mp h).1
  unfold atI ixN
  rw [if_pos (Int.natCast_nonneg k), if_pos (by omega)]
  exact h
theorem atI_ex {α : Type} {xs : List α} {k : Nat} (h : k < xs.length) : ∃ x, x ∈ xs ∧ xs[k]? = some x ∧ atI xs (k : Int) = some x := by
  refine ⟨xs[k], List.getElem_mem h, List.getElem?_eq_getElem h, ?_⟩
  unfold atI ixN
  rw [if_pos (Int.natCast_nonneg k), if_pos (by omega)]
  exact List.getElem?_eq_getElem h
theorem atI_last {xs : List α} (h : 0 < xs.length) : ∃ x, atI xs (-1) = some x ∧ xs.getLast? = some x := by
  refine ⟨xs[xs.length - 1]'(by omega), ?_, ?_⟩
  · unfold atI ixN
    rw [if_neg (by decide), if_pos (by omega)]
    rw [show (-1 + (xs.length : Int)).toNat = xs.length - 1 by omega]
    exact List.getElem?_eq_getElem (by omega)
  · rw [List.getLast?_eq_getElem?]
    exact List.getElem?_eq_getElem (by omega)
/-! ### fields -/
theorem ev_fld {a C dx : Addr} {fs : List (Str × V)} {f : Str} {v : V} (h : EV K te σ H (.ref a)) (ha : G a = some (.ins C dx fs)) (e : Ex G H) (cl : Cls K C) (na : NoAttr K C f) (hl : fs.lookup f = some v) : EV K (tFld K te f) σ H v := fun H1 e1 Q q =>
  h H1 e1 _ fun H2 e2 => ⟨a, C, dx, fs, v, rfl, (e.trans (e1.trans e2)) _ _ ha, cl, na, hl, q H2 e2⟩
theorem em_fld {a C dx l : Addr} {fs : List (Str × V)} {f : Str} {xs : List α} (h : EV K te σ H (.ref a)) (ha : G a = some (.ins C dx fs)) (e : Ex G H) (cl : Cls K C) (na : NoAttr K C f) (hl : fs.lookup f = some (.ref l)) (o : Own K G l xs) : EM K (tFld K te f) σ H xs := fun H1 e1 Q q =>
  ev_fld h ha e cl na hl H1 e1 _ fun H2 e2 => q l H2 e2 (o.mono (e.trans (e1.trans e2)))
theorem EM.er {xs : List α} (h : EM K te σ H xs) : ER K te σ H xs := fun H1 e Q q => h H1 e Q fun p H2 e2 o => q _ H2 e2 o.rep
/-! ### for i, x in enumerate(xs) -/
theorem s_enum {xs : List α} {m n : Nat} {tb : TS} (h : ER K te σ H xs) (k : ∀ a vs H1, Ex H H1 → SqL K H1 a vs → Reps K H1 vs xs → ∃ (G : Hp) (J : Nat → L2.St → Hp → Prop), Ex G H1 ∧ SqL K G a vs ∧ Reps K G vs xs ∧ J 0 σ H1 ∧
      (∀ i x w σ' H' H'', xs[i]? = some x → Ex G H' → Ex H' H'' → Rep K G w x → J i σ' H' → tb { D with nx := fun σ3 H3 => Ex G H3 ∧ J (i + 1) σ3 H3, ct := fun σ3 H3 => Ex G H3 ∧ J (i + 1) σ3 H3, bk := D.nx } ((σ'.set m (some (.int (i : Nat)))).set n (some w)) H'') ∧
      (∀ σ' H', Ex G H' → J xs.length σ' H' → D.nx σ' H')) : tFor (iEnum K (tCons te tNil)) (gTup K 2 (gCons (gName m) (gCons (gName n) gNil))) tb D σ H := h H (Ex.refl H) _ fun v H1 e1 r => by
  obtain ⟨a, vs, rfl, s, r⟩ := Rep.list r
  obtain ⟨G, J, eG, sG, rG, j0, js, jd⟩ := k a vs H1 e1 s r
  have hl := rG.len
  refine ⟨a, vs, rfl, s, fun i k' σ' H' => k' = xs.length - i ∧ i ≤ xs.length ∧ Ex G H' ∧ J i σ' H', ⟨_, rfl, Nat.zero_le _, eG, j0⟩, ?_⟩
  rintro i k' σ' H' ⟨rfl, hi, eH, j⟩
  have q := Evl.ex_l eH sG
  by_cases hlt : i < xs.length
  · refine .inr ⟨⟨vs, vs[i]'(by omega), q, by simp [hl, hlt]⟩, fun σ3 H3 => Ex G H3 ∧ J (i + 1) σ3 H3, fun σ3 H3 z => ⟨_, by omega, rfl, hlt, z.1, z.2⟩, ?_⟩
    rintro y H2 ⟨T, x, rfl, hT, rfl, hx⟩
    obtain ⟨z, hz, rz⟩ := rG.got (hx vs q)
    have eT : Ex H' (upd H' T (.tup [.int (i : Nat), x])) := Evl.Ex.new hT
    exact ⟨T, _, rfl, SqT.of upd_same, rfl, _, _, rfl, _, _, rfl, rfl, js i z x σ' H' _ hz eH eT rz j⟩
  · have e : i = xs.length := by omega
    subst e
    exact .inl ⟨⟨vs, q, by omega⟩, jd σ' H' eH j⟩
/-! ### a while -/
theorem s_while (J : L2.St → Hp → Prop) (μ : L2.St → Hp → Nat) {tb : TS} (j0 : J σ H) (js : ∀ σ' H', J σ' H' → ∃ b, ET K tt σ' H' b ∧ (b = true → ∀ H2, Ex H' H2 → tb { D with nx := fun σ3 H3 => J σ3 H3 ∧ μ σ3 H3 < μ σ' H', ct := fun σ3 H3 => J σ3 H3 ∧ μ σ3 H3 < μ σ' H', bk := D.nx } σ' H2) ∧ (b = false → ∀ H2, Ex H' H2 → D.nx σ' H2)) :
    tWhile tt tb D σ H := by
  refine ⟨fun m σ' H' => m = μ σ' H' ∧ J σ' H', ⟨_, rfl, j0⟩, ?_⟩
  rintro m σ' H' ⟨rfl, j⟩
  obtain ⟨b, hb, h1, h2⟩ := js σ' H' j
  refine hb H' (Ex.refl H') _ fun H2 e2 => ?_
  cases b with
  | true =>
    rw [if_pos rfl]
    exact ⟨fun σ3 H3 => J σ3 H3 ∧ μ σ3 H3 < μ σ' H', fun σ3 H3 z => ⟨_, z.2, rfl, z.1⟩, h1 rfl H2 e2⟩
  | false =>
    rw [if_neg Bool.false_ne_true]
    exact h2 rfl H2 e2
/-! ### stores -/
/-- xs[i] = e, xs a name -/
theorem s_put {n : Nat} {p : Addr} {xs : List α} {x : α} {k : Int} {j : Nat} (hσ : σ[n]? = some (some (.ref p))) (ho : Own K H p xs) (h : ER K te σ H x) [Flat α] (hi : ∀ H1, Ex H H1 → EV K tb σ H1 (.int k)) (hj : ixN xs.length k = some j)
    (c : ∀ H', (∀ G, Ex G H → G p = none → Ex G H') → Tups H H' → Own K H' p (xs.set j x) → D.nx σ H') : tAsg te (gSub (tVar n) tb rSetL) D σ H := h H (Ex.refl H) _ fun v H1 e1 r => ⟨_, hσ, hi H1 e1 H1 (Ex.refl H1) _ fun H2 e2 => by
  obtain ⟨vs, h1, r1⟩ := (ho.mono (e1.trans e2)).ex
  refine ⟨p, vs, k, j, rfl, rfl, h1, by rw [r1.len]; exact hj, c _ (fun G eG hG => ex_mut (eG.trans (e1.trans e2)) hG) ((Tups.ex (e1.trans e2)).trans (Tups.upd h1)) ⟨_, upd_same, ?_⟩⟩
  rw [cut_upd]
  exact r1.set j ((r.mono e2).imm (Tups.cut h1))⟩
theorem q_put {n : Nat} {p : Addr} {xs : List α} {x : α} {k : Int} {j : Nat} (hσ : σ[n]? = some (some (.ref p))) (ho : Own K H p xs) (h : ER K te σ H x) [Flat α] (hi : ∀ H1, Ex H H1 → EV K tb σ H1 (.int k)) (hj : ixN xs.length k = some j)
    (c : ∀ H', (∀ G, Ex G H → G p = none → Ex G H') → Tups H H' → Own K H' p (xs.set j x) → u D σ H') : tSeq (tAsg te (gSub (tVar n) tb rSetL)) u D σ H := s_put (D := { D with nx := u D }) hσ ho h hi hj c
theorem ixN_m1 {n : Nat} (h : 0 < n) : ixN n (-1) = some (n - 1) := by
  unfold ixN
  rw [if_neg (by decide), if_pos (by omega)]
  congr 1
  omega
theorem ixN_nn {n : Nat} {k : Int} (h0 : 0 ≤ k) (h1 : k < n) : ixN n k = some k.toNat := by
  unfold ixN
  rw [if_pos h0, if_pos h1]
/-- what an owned list keeps through a change at another one -/
theorem Own.other {p q : Addr} {xs : List α} {o : HO} [Flat α] {ws : List V} (h : Own K H p xs) (hq : H q = some (.lst ws)) (ne : q ≠ p) : Own K (upd H q o) p xs := by
  obtain ⟨vs, h1, r1⟩ := h.ex
  refine ⟨vs, by rw [upd_ne (Ne.symm ne)]; exact h1, ?_⟩
  have hc : cut H p q = some (.lst ws) := by rw [cut_ne ne]; exact hq
  rw [cut_upd_ne ne]
  exact r1.imm (Tups.upd hc)
end
end Z
set_option Elab.async false
set_option linter.all false
set_option maxRecDepth 100000
set_option maxHeartbeats 2000000
set_option autoImplicit false
namespace Z
open PySem L2
open Evl (Ex)
open Dat
section
variable {K : PySem.W.Frag} {α β : Type} [Dat α] [Dat β] {σ : L2.St} {G H : Hp} {te : TE} {tt : TT} {t u : TS} {D : Ends} {i : Nat}
theorem q_for {xs : List α} {g : TG} {tb : TS} (h : ER K te σ H xs) (k : ∀ a vs H1, Ex H H1 → SqL K H1 a vs → Reps K H1 vs xs → ∃ (G : Hp) (J : Nat → L2.St → Hp → Prop), Ex G H1 ∧ SqL K G a vs ∧ Reps K G vs xs ∧ J 0 σ H1 ∧
      (∀ i x v σ' H', xs[i]? = some x → Ex G H' → Rep K G v x → J i σ' H' → g v σ' H' fun σ2 H2 => tb { D with nx := fun σ3 H3 => Ex G H3 ∧ J (i + 1) σ3 H3, ct := fun σ3 H3 => Ex G H3 ∧ J (i + 1) σ3 H3, bk := u D } σ2 H2) ∧
      (∀ σ' H', Ex G H' → J xs.length σ' H' → u D σ' H')) : tSeq (tFor (iList K te) g tb) u D σ H := s_for (D := { D with nx := u D }) h k
theorem q_forV {xs : List α} {n : Nat} {v : V} {g : TG} {tb : TS} (hσ : σ[n]? = some (some v)) (r : Rep K G v xs) (e : Ex G H) (J : Nat → L2.St → Hp → Prop) (j0 : J 0 σ H)
    (js : ∀ i x w σ' H', xs[i]? = some x → Ex G H' → Rep K G w x → J i σ' H' → g w σ' H' fun σ2 H2 => tb { D with nx := fun σ3 H3 => Ex G H3 ∧ J (i + 1) σ3 H3, ct := fun σ3 H3 => Ex G H3 ∧ J (i + 1) σ3 H3, bk := u D } σ2 H2)
    (jd : ∀ σ' H', Ex G H' → J xs.length σ' H' → u D σ' H') : tSeq (tFor (iList K (tVar n)) g tb) u D σ H := s_forV (D := { D with nx := u D }) hσ r e J j0 js jd
theorem q_forT {xs : Tp α} {g : TG} {tb : TS} (h : ER K te σ H xs) (k : ∀ a vs H1, Ex H H1 → SqT K H1 a vs → Reps K H1 vs (α := α) xs → ∃ (G : Hp) (J : Nat → L2.St → Hp → Prop), Ex G H1 ∧ SqT K G a vs ∧ Reps K G vs (α := α) xs ∧ J 0 σ H1 ∧
      (∀ i x v σ' H', (show List α from xs)[i]? = some x → Ex G H' → Rep K G v x → J i σ' H' → g v σ' H' fun σ2 H2 => tb { D with nx := fun σ3 H3 => Ex G H3 ∧ J (i + 1) σ3 H3, ct := fun σ3 H3 => Ex G H3 ∧ J (i + 1) σ3 H3, bk := u D } σ2 H2) ∧
      (∀ σ' H', Ex G H' → J (List.length xs) σ' H' → u D σ' H')) : tSeq (tFor (iTup K te) g tb) u D σ H := s_forT (D := { D with nx := u D }) h k
theorem q_rng {n : Int} {ta : TE} {g : TG} {tb : TS} (h : ER K ta σ H n) (hn : n < 2 ^ 62) (hn0 : -(2 ^ 62) ≤ n) (k : ∀ H1, Ex H H1 → ∃ (G : Hp) (J : Nat → L2.St → Hp → Prop), Ex G H1 ∧ J 0 σ H1 ∧
      (∀ (i : Nat) σ' H', i < n.toNat → Ex G H' → J i σ' H' → g (.int (i : Int)) σ' H' fun σ2 H2 => tb { D with nx := fun σ3 H3 => Ex G H3 ∧ J (i + 1) σ3 H3, ct := fun σ3 H3 => Ex G H3 ∧ J (i + 1) σ3 H3, bk := u D } σ2 H2) ∧
      (∀ σ' H', Ex G H' → J n.toNat σ' H' → u D σ' H')) : tSeq (tFor (iRng1 (tCons ta tNil)) g tb) u D σ H := s_rng (D := { D with nx := u D }) h hn hn0 k
theorem q_rng2 {lo hi : Int} {ta tc : TE} {g : TG} {tb : TS} (h : ER K ta σ H lo) (h' : ER K tc σ H hi) (hb : -(2 ^ 62) ≤ lo ∧ lo < 2 ^ 62 ∧ -(2 ^ 62) ≤ hi ∧ hi < 2 ^ 62) (k : ∀ H1, Ex H H1 → ∃ (G : Hp) (J : Nat → L2.St → Hp → Prop), Ex G H1 ∧ J 0 σ H1 ∧
      (∀ (i : Nat) σ' H', i < (hi - lo).toNat → Ex G H' → J i σ' H' → g (.int (lo + (i : Int))) σ' H' fun σ2 H2 => tb { D with nx := fun σ3 H3 => Ex G H3 ∧ J (i + 1) σ3 H3, ct := fun σ3 H3 => Ex G H3 ∧ J (i + 1) σ3 H3, bk := u D } σ2 H2) ∧
      (∀ σ' H', Ex G H' → J (hi - lo).toNat σ' H' → u D σ' H')) : tSeq (tFor (iRng2 (tCons ta (tCons tc tNil))) g tb) u D σ H := s_rng2 (D := { D with nx := u D }) h h' hb k
theorem q_enum {xs : List α} {m n : Nat} {tb : TS} (h : ER K te σ H xs) (k : ∀ a vs H1, Ex H H1 → SqL K H1 a vs → Reps K H1 vs xs → ∃ (G : Hp) (J : Nat → L2.St → Hp → Prop), Ex G H1 ∧ SqL K G a vs ∧ Reps K G vs xs ∧ J 0 σ H1 ∧
      (∀ i x w σ' H' H'', xs[i]? = some x → Ex G H' → Ex H' H'' → Rep K G w x → J i σ' H' → tb { D with nx := fun σ3 H3 => Ex G H3 ∧ J (i + 1) σ3 H3, ct := fun σ3 H3 => Ex G H3 ∧ J (i + 1) σ3 H3, bk := u D } ((σ'.set m (some (.int (i : Nat)))).set n (some w)) H'') ∧
      (∀ σ' H', Ex G H' → J xs.length σ' H' → u D σ' H')) : tSeq (tFor (iEnum K (tCons te tNil)) (gTup K 2 (gCons (gName m) (gCons (gName n) gNil))) tb) u D σ H := s_enum (D := { D with nx := u D }) h k
theorem q_while (J : L2.St → Hp → Prop) (μ : L2.St → Hp → Nat) {tb : TS} (j0 : J σ H) (js : ∀ σ' H', J σ' H' → ∃ b, ET K tt σ' H' b ∧ (b = true → ∀ H2, Ex H' H2 → tb { D with nx := fun σ3 H3 => J σ3 H3 ∧ μ σ3 H3 < μ σ' H', ct := fun σ3 H3 => J σ3 H3 ∧ μ σ3 H3 < μ σ' H', bk := u D } σ' H2) ∧ (b = false → ∀ H2, Ex H' H2 → u D σ' H2)) : tSeq (tWhile tt tb) u D σ H := s_while (D := { D with nx := u D }) J μ j0 js
/-- an if whose ways meet again in J -/
theorem q_ifJ {b : Bool} {tt : TT} {t u' u : TS} (J : L2.St → Hp → Prop) (k : ∀ σ' H', J σ' H' → u D σ' H') (h : ET K tt σ H b) (k1 : (∀ σ' H', J σ' H' → u D σ' H') → b = true → ∀ H', Ex H H' → t { D with nx := u D } σ H')
    (k2 : (∀ σ' H', J σ' H' → u D σ' H') → b = false → ∀ H', Ex H H' → u' { D with nx := u D } σ H') : tSeq (tIfS tt t u') u D σ H := s_if (D := { D with nx := u D }) h (k1 k) (k2 k)
theorem Own.cut {p q : Addr} {xs : List α} [Flat α] {ws : List V} (h : Own K H p xs) (hq : H q = some (.lst ws)) (ne : q ≠ p) : Own K (Z.cut H q) p xs := by
  obtain ⟨vs, h1, r1⟩ := h.ex
  refine ⟨vs, by rw [cut_ne (Ne.symm ne)]; exact h1, r1.imm ?_⟩
  have hc : Z.cut H p q = some (.lst ws) := by rw [cut_ne ne]; exact hq
  have e : Z.cut (Z.cut H p) q = Z.cut (Z.cut H q) p := by
    funext b
    unfold Z.cut
    split <;> split <;> rfl
  exact e ▸ Tups.cut hc
theorem Own.at {p : Addr} {xs : List α} (h : Own K H p xs) : ∃ vs, H p = some (.lst vs) := by
  obtain ⟨vs, h1, _⟩ := h.ex
  exact ⟨vs, h1⟩
end
end Z
set_option Elab.async false
set_option linter.all false
set_option maxRecDepth 100000
set_option maxHeartbeats 4000000
set_option autoImplicit false
/-! Z: defs of a class that say super().__init__(..): their bodies at their own code. -/
namespace Z
open PySem L2
open PySem.W (ksFn ks_superIn kxs_mw envX)
open PyProof.Rows (envOfC)
/-- the frame of such a def: its class's cell, and its own cells -/
abbrev ksE (name : Str) (scope : Scope) (L a : Addr) (cd : Value) (cc : Addr) : Env := envX name scope L a cd (cellsFrom (L + 1) scope.names [(("__class__" : Str), cc)])
theorem cells_app : ∀ (names : List (Str × NameKind)) (n : Nat) (acc : List (Str × Addr)), cellsFrom n names acc = cellsFrom n names [] ++ acc
  | [], n, acc => rfl
  | (x, k) :: r, n, acc => by
    unfold cellsFrom
    split
    · rw [cells_app r (n + 1) ((x, n) :: acc), cells_app r (n + 1) [(x, n)], List.append_assoc]; rfl
    · exact cells_app r n acc
theorem cells_mem {y : Str × Addr} : ∀ (names : List (Str × NameKind)) (n : Nat) (acc : List (Str × Addr)), y ∈ cellsFrom n names acc → y ∈ acc ∨ (y.1, NameKind.cell) ∈ names
  | [], n, acc, h => .inl h
  | (x, k) :: r, n, acc, h => by
    unfold cellsFrom at h
    split at h
    · rename_i hk
      have hk : k = .cell := by simpa using hk
      subst hk
      rcases cells_mem r (n + 1) _ h with q | q
      · rcases List.mem_cons.mp q with rfl | q
        · exact .inr List.mem_cons_self
        · exact .inl q
      · exact .inr (List.mem_cons_of_mem _ q)
    · exact (cells_mem r n acc h).imp id fun q => List.mem_cons_of_mem _ q
/-- own cells beside the class's -/
structure OwnC (L cc : Nat) (own : List (Str × Addr)) : Prop where
  apart : own.Pairwise fun x y => x.2 ≠ y.2
  above : ∀ n c, (n, c) ∈ own → L < c
  nocls : ∀ c, ((("__class__" : Str), c) : Str × Addr) ∉ own
theorem OwnC.look {L cc : Nat} {own : List (Str × Addr)} (O : OwnC L cc own) {x : Str} (hx : x ≠ ("__class__" : Str)) : (own ++ [(("__class__" : Str), cc)]).lookup x = own.lookup x := by
  rw [List.lookup_append]
  cases own.lookup x with
  | some c => rfl
  | none =>
    have : (x == ("__class__" : Str)) = false := by simpa using hx
    simp [List.lookup, this]
theorem OwnC.cls {L cc : Nat} {own : List (Str × Addr)} (O : OwnC L cc own) : (own ++ [(("__class__" : Str), cc)]).lookup ("__class__" : Str) = some cc := by
  rw [List.lookup_append]
  have : own.lookup ("__class__" : Str) = none := by
    cases e : own.lookup ("__class__" : Str) with
    | none => rfl
    | some c => exact absurd (PySem.mem_of_lookup e) (O.nocls c)
  rw [this]
  simp [List.lookup]
section
variable {M : Model} {A : Around} {E : Value → Shared → Prop} {s₀ s : Shared} {m cm : Str → Option Value} {env : Env} {own : List (Str × Addr)}
theorem st_own {n : Str} {c : Addr} {v : Value} {Q : Unit → Shared → Prop} (x : InCallC s₀ env.locals m own cm s) (hk : env.scope.kind = .function) (hl : env.kindOf n = some .cell)
    (hc : env.cells.lookup n = some c) (ho : own.lookup n = some c)
    (h : ∀ s', InCallC s₀ env.locals m own (fun y => if y = n then some v else cm y) s' → Q () s') : wpAny M A (storeName env n v) Q E s := by
  have hLc := x.above n c (PySem.mem_of_lookup ho)
  refine wpAny_storeName_cell hk hl hc (x.cell n c ho) fun h' hc' hs' => h _ ⟨⟨?_, x.toInCall.ns.sameBut hs' (Nat.ne_of_lt hLc), fun b o e => ?_, x.toInCall.fresh⟩, fun k c' hk' => ?_, x.apart, x.above⟩
  · obtain ⟨h₁, tk, rfl⟩ := x.toInCall.same
    exact ⟨h', _, rfl⟩
  · exact hs'.extBut b o (Nat.ne_of_lt (Nat.lt_trans (Nat.lt_of_lt_of_le (Heap.lt_size e) x.toInCall.fresh) hLc)) (x.toInCall.keep b o e)
  · by_cases hkn : k = n
    · subst hkn
      rw [ho] at hk'; cases hk'
      simpa using hc'
    · rw [if_neg hkn]
      exact (x.cell k c' hk').sameBut hs' fun e => hkn (name_of_addr x.apart (PySem.mem_of_lookup hk') (e ▸ PySem.mem_of_lookup ho))
theorem st_loc {n : Str} {v : Value} {Q : Unit → Shared → Prop} (x : InCallC s₀ env.locals m own cm s) (hk : env.scope.kind = .function) (hl : env.kindOf n = some .local)
    (h : ∀ s', InCallC s₀ env.locals (fun y => if y = n then some v else m y) own cm s' → Q () s') : wpAny M A (storeName env n v) Q E s := by
  refine wpAny_storeName_local hl x.toInCall.ns (fun h' hn' hs' => h _ ⟨⟨?_, hn', fun b o e => ?_, x.toInCall.fresh⟩, fun k c hc => ?_, x.apart, x.above⟩) (by rw [hk]; rfl)
  · obtain ⟨h₁, tk, rfl⟩ := x.toInCall.same
    exact ⟨h', _, rfl⟩
  · exact hs'.extBut b o (Nat.ne_of_lt (Nat.lt_of_lt_of_le (Heap.lt_size e) x.toInCall.fresh)) (x.toInCall.keep b o e)
  · exact (x.cell k c hc).sameBut hs' (Nat.ne_of_gt (x.above k c (PySem.mem_of_lookup hc)))
theorem bind_own (f : Str × Value → PUnit → Sem (ForInStep PUnit)) (hf : ∀ n v u, f (n, v) u = (do storeName env n v; pure (.yield ⟨⟩))) (hk : env.scope.kind = .function) :
    ∀ (binds : List (Str × Value)) (m cm : Str → Option Value) (s : Shared) (Q : PUnit → Shared → Prop), InCallC s₀ env.locals m own cm s →
      (∀ x ∈ binds, env.kindOf x.1 = some .local ∨ (env.kindOf x.1 = some .cell ∧ ∃ c, env.cells.lookup x.1 = some c ∧ own.lookup x.1 = some c)) →
      (∀ s', InCallC s₀ env.locals (bindL env.kindOf binds m) own (bindC env.kindOf binds cm) s' → Q ⟨⟩ s') → wpAny M A (forIn binds ⟨⟩ f) Q E s
  | [], m, cm, s, Q, x, _, h => by rw [List.forIn_nil]; exact wpAny_pure (h s x)
  | (n, v) :: r, m, cm, s, Q, x, hkind, h => by
    rw [List.forIn_cons, hf]
    have hr : ∀ y ∈ r, env.kindOf y.1 = some .local ∨ (env.kindOf y.1 = some .cell ∧ ∃ c, env.cells.lookup y.1 = some c ∧ own.lookup y.1 = some c) := fun y hy => hkind y (List.mem_cons_of_mem _ hy)
    rcases hkind (n, v) List.mem_cons_self with hl | ⟨hl, c, hc, ho⟩
    · refine wpAny_bind (wpAny_bind (st_loc x hk hl fun s' x' => wpAny_pure (bind_own f hf hk r _ _ s' Q x' hr fun s'' x'' => h s'' ?_)))
      unfold bindL bindC; rw [if_pos hl, if_pos hl]; exact x''
    · have hnl : ¬ env.kindOf n = some .local := by rw [hl]; decide
      refine wpAny_bind (wpAny_bind (st_own x hk hl hc ho fun s' x' => wpAny_pure (bind_own f hf hk r _ _ s' Q x' hr fun s'' x'' => h s'' ?_)))
      unfold bindL bindC; rw [if_neg hnl, if_neg hnl]; exact x''
end
section
variable {M : Model} {A : Around} {E : Value → Shared → Prop} {s : Shared}
theorem newEnv_own {scope : Scope} {globals cc : Addr} {binds : List (Str × Value)} {qual : Str} {func : Option Addr} {code : Value} {builtins : Addr} {Q : Env → Shared → Prop}
    (hk : scope.kind = .function) (hnc : ∀ y ∈ scope.names, y.2 = .cell → y.1 ≠ ("__class__" : Str))
    (hkind : ∀ x ∈ binds, scope.names.lookup x.1 = some .local ∨ scope.names.lookup x.1 = some .cell)
    (hQ : ∀ env, env = newEnv scope s.heap.objs.size globals (cellsFrom (s.heap.objs.size + 1) scope.names [(("__class__" : Str), cc)]) qual func code none builtins →
      ∀ s', InCallC s env.locals (bindL env.kindOf binds fun _ => none) (cellsFrom (s.heap.objs.size + 1) scope.names []) (bindC env.kindOf binds fun _ => none) s' →
        OwnC s.heap.objs.size cc (cellsFrom (s.heap.objs.size + 1) scope.names []) → Q env s') :
    wpAny M A (newFunctionEnv scope globals [(("__class__" : Str), cc)] binds qual func code none builtins) Q E s := by
  simp only [newFunctionEnv, Option.isSome_none, Bool.false_eq_true, if_false]
  refine wpAny_bind (wpAny_alloc ?_)
  refine wpAny_bind (wpAny_layCells _ (fun name kind cells => by cases hkc : kind == NameKind.cell <;> simp [hkc]) _ _ _ _ ?_)
  have ok := cellsFrom_ok scope.names (s.heap.push { cls := .type "frame", data := .dict #[] }) (s.heap.objs.size + 1) [] ⟨fun _ _ hm => (nomatch hm), List.Pairwise.nil⟩ (by rw [Heap.size_push]; exact Nat.le_refl _)
  rw [Heap.size_push] at ok
  rw [show ({ s with heap := s.heap.push { cls := .type "frame", data := .dict #[] } } : Shared).heap.objs.size = s.heap.objs.size + 1 from Heap.size_push ..]
  have O : OwnC s.heap.objs.size cc (cellsFrom (s.heap.objs.size + 1) scope.names []) := ⟨ok.apart, fun n c hm => (ok.empty n c hm).2, fun c hm => by
    rcases cells_mem _ _ _ hm with q | q
    · cases q
    · exact hnc _ q rfl rfl⟩
  refine wpAny_bind (bind_own (s₀ := s) (own := cellsFrom (s.heap.objs.size + 1) scope.names []) (env := newEnv scope s.heap.objs.size globals (cellsFrom (s.heap.objs.size + 1) scope.names [(("__class__" : Str), cc)]) qual func code none builtins)
    _ (fun _ _ _ => rfl) hk binds (fun _ => none) (fun _ => none) _ _
    ⟨⟨⟨_, _, rfl⟩, (Heap.Ns.new s.heap (.type "frame")).keeps (pushCells_keeps _ _), fun b o e => pushCells_keeps _ _ b o (Heap.get?_push_of_some _ e), Nat.le_refl _⟩,
      fun n c hc => (ok.empty n c (PySem.mem_of_lookup hc)).1, ok.apart, fun n c hm => (ok.empty n c hm).2⟩
    (fun x hx => ?_) fun s' x => wpAny_pure (hQ _ rfl s' x O))
  refine (hkind x hx).imp id fun q => ⟨q, ?_⟩
  obtain ⟨c, e⟩ := cell_has (n := s.heap.objs.size + 1) q
  refine ⟨c, ?_, e⟩
  show (cellsFrom (s.heap.objs.size + 1) scope.names [(("__class__" : Str), cc)]).lookup x.1 = some c
  rw [cells_app, O.look (hnc _ (PySem.mem_of_lookup q) rfl)]
  exact e
end
/-- the context of such a def's body -/
def cxS (CX : CXT) (P : Program) (w : World) (K : PySem.W.Frag) (mg : Str → Option Value) (base : Heap) (N : List Str) (qual : Str) (scope : Scope) (f : Addr) (cd : Value) (cc : Addr) (A : Around) (outer : List Env) (s : Shared) (H : Hp) (E : XK) : Cx where
  prog := P
  w := w
  K := K
  mg := mg
  base := base
  A := A.deeper (ksE qual scope s.heap.objs.size f cd cc)
  N := N
  s_0 := s
  H_0 := H
  env := ksE qual scope s.heap.objs.size f cd cc
  outer := outer
  stack := ksE qual scope s.heap.objs.size f cd cc :: outer
  ex := []
  calm := true
  fn := fun _ => false
  pn := []
  xe := fun e s' => wpAny (model P w) (A.deeper (ksE qual scope s.heap.objs.size f cd cc)) (leaving (ksE qual scope s.heap.objs.size f cd cc) e) (fun _ s'' => CX outer H s E e s'') (fun e' s'' => CX outer H s E e' s'') s'
/-- a block at its own code -/
structure PSsA (X : Cx) (body sts : List Stmt) (t : TS) : Prop where
  run : ∀ (pins : List (Addr × Obj)) (s : Shared) (σ : L2.St) (H : Hp) (D : Ends), Inv X pins σ H s → t D σ H → PySem.wpAt (model X.prog X.w) X.A (.func body X.env) (execs sts X.env) (SP X pins D) X.xe s
theorem pssa_of {X : Cx} {body sts : List Stmt} {t : TS} (h : PSs X sts t) : PSsA X body sts t := ⟨fun pins s σ H D I q => PySem.wpAt_of_wpAny (h.run pins s σ H D I q)⟩
theorem pssa_cons {X : Cx} {body rest : List Stmt} {st : Stmt} {t u : TS} (h1 : PS X st t) (h2 : PSsA X body rest u) : PSsA X body (st :: rest) (tSeq t u) := by
  refine ⟨fun pins s σ H D I h => ?_⟩
  refine PySem.ks_wpAt_execs_cons (PySem.wpAt_of_wpAny (thn (h1.run pins s σ H { D with nx := u D } I h) fun fl s1 q => ?_))
  cases fl with
  | next =>
    obtain ⟨σ', H', I', q⟩ := q
    exact h2.run pins s1 σ' H' D I' q
  | ret v => exact q
  | brk => exact q
  | cont => exact q
/-- names of such a def: locals and own cells, but the class -/
structure FnScopeS (N P : List Str) (sc : Scope) : Prop where
  kind : sc.kind = .function
  co : sc.isCoroutine = false
  gen : sc.isGenerator = false
  nd : N.Nodup
  pre : N.take P.length = P
  par : ∀ x ∈ P, sc.names.lookup x = some .local ∨ sc.names.lookup x = some .cell
  nocell : ∀ y ∈ sc.names, y.2 = .cell → y.1 ≠ ("__class__" : Str)
  free : ∀ y ∈ sc.names, y.2 = .free → y.1 = ("__class__" : Str)
  cls : sc.names.lookup ("__class__" : Str) = some .free
  sup : sc.names.lookup ("super" : Str) = some .globalImplicit
theorem FnScopeS.clsC {N P : List Str} {sc : Scope} (S : FnScopeS N P sc) (n : Nat) (cc : Addr) : (cellsFrom n sc.names [(("__class__" : Str), cc)]).lookup ("__class__" : Str) = some cc := by
  rw [cells_app]
  have O : OwnC 0 cc (cellsFrom n sc.names []) → (cellsFrom n sc.names [] ++ [(("__class__" : Str), cc)]).lookup ("__class__" : Str) = some cc := fun O => O.cls
  rw [List.lookup_append]
  have : (cellsFrom n sc.names []).lookup ("__class__" : Str) = none := by
    cases e : (cellsFrom n sc.names []).lookup ("__class__" : Str) with
    | none => rfl
    | some c =>
      rcases cells_mem _ _ _ (PySem.mem_of_lookup e) with q | q
      · cases q
      · exact absurd rfl (S.nocell _ q rfl)
  rw [this]
  simp [List.lookup]
theorem zip_get {α β : Type} : ∀ {xs : List α} {ys : List β} {i : Nat} {x : α} {y : β}, xs[i]? = some x → ys[i]? = some y → (xs.zip ys)[i]? = some (x, y)
  | [], _, _, _, _, h, _ => by simp at h
  | _ :: _, [], _, _, _, _, h => by simp at h
  | a :: xs, b :: ys, 0, x, y, h, k => by
    simp at h k
    subst h k
    rfl
  | a :: xs, b :: ys, i + 1, x, y, h, k => by
    simpa using zip_get (xs := xs) (ys := ys) (i := i) (by simpa using h) (by simpa using k)
theorem zip_rev_lookup {ps : List Str} (nd : ps.Nodup) : ∀ {us : List Value} {i : Nat} {y : Str} {u : Value}, ps[i]? = some y → us[i]? = some u → (ps.zip us).reverse.lookup y = some u := by
  induction ps with
  | nil => intro us i y u h; simp at h
  | cons p ps ih =>
    intro us i y u h k
    cases us with
    | nil => simp at k
    | cons w us =>
      have nd' := List.nodup_cons.mp nd
      rw [List.zip_cons_cons, List.reverse_cons]
      cases i with
      | zero =>
        simp at h k
        subst h k
        have no : (ps.zip us).reverse.lookup p = none := by
          rw [List.lookup_eq_none_iff]
          intro q hq
          have hm : q ∈ ps.zip us := List.mem_reverse.mp hq
          have := (List.of_mem_zip (show (q.1, q.2) ∈ ps.zip us from hm)).1
          simpa using fun e : p = q.1 => nd'.1 (e ▸ this)
        rw [List.lookup_append, no]
        simp [List.lookup]
      | succ i =>
        have := ih nd'.2 (us := us) (i := i) (y := y) (u := u) (by simpa using h) (by simpa using k)
        rw [List.lookup_append, this]
        rfl
theorem inv_startS {CX : CXT} {P : Program} {w : World} {K : PySem.W.Frag} {mg : Str → Option Value} {base : Heap} {N ps : List Str} {qual : Str} {scope : Scope} {f cc D : Addr} {cd : Value} {A : Around} {outer : List Env} {s s1 : Shared} {H : Hp} {E : XK} {us : List Value} {vs : List V}
    (S : FnScopeS N ps scope) (hd : A.handled = none) (e0 : Env0 P w K mg base A outer s H) (hl : vs.length = ps.length) (r : Vals vs us) (hcc : ∃ cl cld csl, K.lookup cc = some ⟨cl, cld, .cell (some (.ref D)), csl⟩)
    (O : OwnC s.heap.objs.size cc (cellsFrom (s.heap.objs.size + 1) scope.names []))
    (x : InCallC s s.heap.objs.size (bindL (ksE qual scope s.heap.objs.size f cd cc).kindOf (ps.zip us) fun _ => none) (cellsFrom (s.heap.objs.size + 1) scope.names []) (bindC (ksE qual scope s.heap.objs.size f cd cc).kindOf (ps.zip us) fun _ => none) s1) :
    Inv (cxS CX P w K mg base N qual scope f cd cc A outer s H E) [] (L2.start N vs) H s1 := by
  have hpl : ps.length ≤ N.length := by have := congrArg List.length S.pre; rw [List.length_take] at this; omega
  obtain ⟨h1, tk, rfl, hk⟩ := x.done
  have noA : ∀ b : Addr, b ∉ (cxS CX P w K mg base N qual scope f cd cc A outer s H E).ex := fun b z => absurd (show b ∈ ([] : List Addr) from z) (by simp)
  obtain ⟨cl, cld, csl, hc⟩ := hcc
  have hcb := e0.mod.kin _ _ hc
  have hcs := (e0.bs _ _ hcb).1
  have hlt : cc < s.heap.objs.size := Heap.lt_size hcs
  have one : ∀ x c, (cxS CX P w K mg base N qual scope f cd cc A outer s H E).env.cells.lookup x = some c → (x = ("__class__" : Str) ∧ c = cc) ∨ (x ≠ ("__class__" : Str) ∧ (cellsFrom (s.heap.objs.size + 1) scope.names []).lookup x = some c) := fun x c h => by
    have h' : (cellsFrom (s.heap.objs.size + 1) scope.names [(("__class__" : Str), cc)]).lookup x = some c := h
    rw [cells_app] at h'
    by_cases hx : x = ("__class__" : Str)
    · subst hx
      rw [O.cls] at h'
      cases h'
      exact .inl ⟨rfl, rfl⟩
    · rw [O.look hx] at h'
      exact .inr ⟨hx, h'⟩
  refine ⟨⟨e0.mod, S.kind, rfl, rfl, Nat.le_refl _, fun y z c h1 h2 => ?_, fun y hy => ?_, fun x c z _ => ?_, fun _ => hd, Around.frames_deeper e0.frames, .inr ⟨rfl, rfl⟩, fun b z => absurd z (noA b), e0.bs, e0.bsz, fun b _ _ => noA b, fun b z => absurd z (noA b), e0.funs, e0.frf⟩,
    rfl, e0.bare, Un.kept hk, ⟨_, x.toInCall.ns, fun i y v h1 h2 h3 => ?_⟩, fun y c h => ?_, e0.hok.fresh (Nat.le_refl _), fun y c h => ?_, fun p hp => absurd (show p ∈ ([] : List (Addr × Obj)) from hp) (by simp), e0.hok.kept hk, ?_⟩
  · rcases one _ _ h1 with ⟨a1, a2⟩ | ⟨a1, a2⟩ <;> rcases one _ _ h2 with ⟨b1, b2⟩ | ⟨b1, b2⟩
    · rw [a1, b1]
    · have := O.above _ _ (PySem.mem_of_lookup b2)
      rw [a2] at this
      exact absurd (Nat.lt_trans hlt this) (Nat.lt_irrefl _)
    · have := O.above _ _ (PySem.mem_of_lookup a2)
      rw [b2] at this
      exact absurd (Nat.lt_trans hlt this) (Nat.lt_irrefl _)
    · exact name_of_addr O.apart (PySem.mem_of_lookup a2) (PySem.mem_of_lookup b2)
  · have hy : scope.names.lookup y = some .cell ∨ scope.names.lookup y = some .free := hy
    show ∃ c, (cellsFrom (s.heap.objs.size + 1) scope.names [(("__class__" : Str), cc)]).lookup y = some c
    rw [cells_app]
    rcases hy with hy | hy
    · rw [O.look (S.nocell _ (PySem.mem_of_lookup hy) rfl)]
      exact cell_has hy
    · have : y = ("__class__" : Str) := S.free _ (PySem.mem_of_lookup hy) rfl
      rw [this]
      exact ⟨cc, O.cls⟩
  · exact absurd (show (false : Bool) = true from z) Bool.false_ne_true
  · have hi : i < vs.length := by
      unfold L2.start at h2
      by_cases hi : i < vs.length
      · exact hi
      · rw [List.getElem?_append_right (by simpa using hi)] at h2
        rw [List.getElem?_replicate] at h2
        split at h2 <;> cases h2
    have ha : vs[i]? = some v := by
      unfold L2.start at h2
      rw [List.getElem?_append_left (by simpa using hi), List.getElem?_map] at h2
      cases e : vs[i]? with
      | none => rw [e] at h2; cases h2
      | some a => rw [e] at h2; cases h2; rfl
    obtain ⟨u, hu, rv⟩ := r.get ha
    have hp : ps[i]? = some y := by
      rw [← S.pre, List.getElem?_take_of_lt (by omega)]; exact h1
    have ndP : ps.Nodup := by rw [← S.pre]; exact S.nd.sublist (List.take_sublist _ _)
    refine ⟨u, rv, ?_⟩
    rcases S.par y (List.mem_of_getElem? hp) with k | k
    · exact .inl ⟨k, bindL_get ndP hp hu k⟩
    · obtain ⟨c, e⟩ := cell_has (n := s.heap.objs.size + 1) k
      refine .inr ⟨.inl k, c, ?_, ?_⟩
      · show (cellsFrom (s.heap.objs.size + 1) scope.names [(("__class__" : Str), cc)]).lookup y = some c
        rw [cells_app, O.look (S.nocell _ (PySem.mem_of_lookup k) rfl)]
        exact e
      · have q := x.cell y c e
        rw [bindC_get ndP hp hu (by show scope.names.lookup y ≠ _; rw [k]; decide)] at q
        exact q
  · rcases one _ _ h with ⟨_, rfl⟩ | ⟨_, b⟩
    · exact ⟨_, _, hk _ _ hcs, rfl⟩
    · exact ⟨_, x.cell y c b⟩
  · rcases one _ _ h with ⟨_, rfl⟩ | ⟨_, b⟩
    · exact (e0.bs _ _ hcb).2
    · exact e0.hok.fresh (Nat.le_of_lt (O.above y c (PySem.mem_of_lookup b)))
  · unfold L2.start
    show _ = N.length
    rw [List.length_append, List.length_map, List.length_replicate]
    omega
/-- what the written part says of a def that closes over its class -/
structure SupF (P : Program) (K : PySem.W.Frag) (mg : Str → Option Value) (x qual : Str) (st : Stmt) (f cda cc D : Addr) (fd : FuncData) : Prop where
  ex : ∃ (oc : Value) (od : Option Addr) (kV doc pm : Value) (an : Option Addr) (ct : Value) (osl : Array (Option Value)),
    fd = ksFn x qual (defArgs st) (defBody st) (defScope st) .none kV doc pm an (.ref cda) ct cc ∧ K.lookup f = some ⟨oc, od, .func fd, osl⟩ ∧ PySem.W.codeIn K (.ref cda) qual = true
  code : ∃ ccl cdd vs ccs file tf, K.lookup cda = some ⟨ccl, cdd, .fields vs, ccs⟩ ∧ vs[2]? = some (.str file tf) ∧ (P.main.file == file) = true
  cell : ∃ cl cld csl, K.lookup cc = some ⟨cl, cld, .cell (some (.ref D)), csl⟩
  cls : (PySem.W.clsIn K D).isSome = true
  nosup : mg ("super" : Str) = none
  htop : (P.main.scope.names.lookup ("super" : Str)).isSome = false
  par : ∃ ar, ((defArgs st).posonlyargs ++ (defArgs st).args).head? = some ar ∧ ar.arg = ("self" : Str)
  kp : PySem.W.keepIn K (.ref f) = true
theorem SupF.ok {P : Program} {w : World} {K : PySem.W.Frag} {mg : Str → Option Value} {base : Heap} {CX : CXT} {k : Nat} {x qual : Str} {st : Stmt} {f cda cc D : Addr} {fd : FuncData} {N ps : List Str} {sp : Sp}
    (F : SupF P K mg x qual st f cda cc D fd) (S : FnScopeS N ps (defScope st)) (len : ∀ vs H Q E, sp vs H Q E → vs.length = ps.length)
    (hbody : ∀ (A : Around) (outer : List Env) (s : Shared) (H : Hp) (vs : List V) (Q : VK) (E : XK), Room k (A.deeper (ksE qual (defScope st) s.heap.objs.size f (.ref cda) cc)) → sp vs H Q E →
      ∃ t, PSsA (cxS CX P w K mg base N qual (defScope st) f (.ref cda) cc A outer s H E) (defBody st) (defBody st) t ∧ t { nx := fun _ H' => Q .non H', rt := Q } (L2.start N vs) H) :
    FnOk P w K mg base CX (k + 1) f fd ps sp := by
  obtain ⟨oc, od, kV, doc, pm, an, ct, osl, rfl, lk, hcd⟩ := F.ex
  refine ⟨len, fun A outer s H args us vs Q E hr e0 hb r hsp => ?_⟩
  have hl := len _ _ _ _ hsp
  have KX : K.In s.heap := e0.mod.kin.keeps fun b o e => (e0.bs b o e).1
  have lim : s.heap.NoLimit := e0.mod.nolimit.keeps fun b o e => (e0.bs b o e).1
  refine codeAny_call_function hr.depth (KX _ _ lk) rfl S.co S.gen rfl (PySem.W.codeRec_of KX hcd) (hb _ _ _ _ ?_)
  refine newEnv_own S.kind S.nocell (fun y hy => S.par y.1 (List.of_mem_zip (show (y.1, y.2) ∈ ps.zip us from hy)).1) fun env he s1 x O => ?_
  subst he
  refine ⟨lim.keeps x.toInCall.keep, PySem.ks_codeAny_funcAt ?_⟩
  obtain ⟨t, ht, hq⟩ := hbody A outer s H vs Q E (hr.deeper _) hsp
  have I := inv_startS (CX := CX) (w := w) (f := f) (cd := .ref cda) (qual := qual) (E := E) S hr.hd e0 hl r F.cell O x
  refine PySem.wpAt_mono (ht.run [] _ (L2.start N vs) H _ I hq) (fun fl s' hs => ?_) fun e s' hs => hs
  have fin : ∀ {σ' : L2.St} {H' : Hp} {v : V} {u : Value}, Inv (cxS CX P w K mg base N qual (defScope st) f (.ref cda) cc A outer s H E) [] σ' H' s' → RelV v u → Q v H' → CE outer P w H s Q u s' :=
    fun {σ' H' v u} J rv q => ⟨v, H', J.os, J.bare, J.base, J.hok, rv, q⟩
  cases fl with
  | ret u =>
    obtain ⟨v, σ', H', J, rv, q⟩ := hs
    exact fin J rv q
  | next =>
    obtain ⟨σ', H', J, q⟩ := hs
    exact fin (v := V.non) (u := Value.none) J rfl q
  | brk =>
    obtain ⟨_, _, _, q⟩ := hs
    exact False.elim q
  | cont =>
    obtain ⟨_, _, _, q⟩ := hs
    exact False.elim q
/-! ### super() -/
section
variable {CX : CXT} {P : Program} {w : World} {K : PySem.W.Frag} {mg : Str → Option Value} {base : Heap} {N ps : List Str} {x qual : Str} {st : Stmt} {f cda cc D : Addr} {fd : FuncData} {A : Around} {outer : List Env} {s₀ : Shared} {H₀ : Hp} {E₀ : XK}
abbrev superO (D x C : Addr) : Obj := PySem.W.ks_superObj D x C
/-- super() made, self an instance of the class at C -/
theorem sup_node (F : SupF P K mg x qual st f cda cc D fd) (S : FnScopeS N ps (defScope st)) (hself : N[0]? = some ("self" : Str)) (hsl : (defScope st).names.lookup ("self" : Str) = some .local)
    {pins : List (Addr × Obj)} {σ : L2.St} {H : Hp} {s : Shared} {a C : Addr} {p0 p1 : Pos} {attr : Str} {whole : Sem Value} {Q : Value → Shared → Prop} {E : Value → Shared → Prop} {ox : Obj} {odx : Option Obj}
    (I : Inv (cxS CX P w K mg base N qual (defScope st) f (.ref cda) cc A outer s₀ H₀ E₀) pins σ H s) (hσ : σ[0]? = some (some (.ref a))) (hat : (attr == ("__class__" : Str)) = false)
    (J : PySem.W.InstAt s.heap a ox C odx) (hsub : PySem.W.mroIn K C (.ref D) = some true)
    (h : ∀ so s', s'.heap.get? so = some (superO D a C) → (∀ b o, s.heap.get? b = some o → s'.heap.get? b = some o) → Inv (cxS CX P w K mg base N qual (defScope st) f (.ref cda) cc A outer s₀ H₀ E₀) pins σ H s' → Q (.ref so) s') :
    PySem.wpAt (model P w) (A.deeper (ksE qual (defScope st) s₀.heap.objs.size f (.ref cda) cc)) (.func (defBody st) (ksE qual (defScope st) s₀.heap.objs.size f (.ref cda) cc))
      (attributeBase (.Call (.Name "super" p0) [] [] p1) attr (ksE qual (defScope st) s₀.heap.objs.size f (.ref cda) cc) whole) Q E s := by
  have X : K.In s.heap := I.kIn
  obtain ⟨oc, od, kV, doc, pm, an, ct, osl, rfl, lk, hcd⟩ := F.ex
  obtain ⟨ccl, cdd, vs, ccs, file, tf, hcode, hvs, hfile⟩ := F.code
  obtain ⟨cl, cld, csl, hcell⟩ := F.cell
  obtain ⟨ar, hp, har⟩ := F.par
  obtain ⟨cdD, hD⟩ := Option.isSome_iff_exists.mp F.cls
  obtain ⟨m, hns, hloc⟩ := I.loc
  obtain ⟨u, ru, hu⟩ := hloc 0 ("self" : Str) (.ref a) hself hσ (.inl hsl)
  obtain rfl : u = Value.ref a := ru
  have hmu : m ("self" : Str) = some (.ref a) := by
    rcases hu with ⟨_, e⟩ | ⟨q, _⟩
    · exact e
    · exfalso
      have hk : ∀ k, (cxS CX P w K mg base N qual (defScope st) f (.ref cda) cc A outer s₀ H₀ E₀).env.kindOf ("self" : Str) = some k → k = .local := fun k e => by
        have e' : (defScope st).names.lookup ("self" : Str) = some k := e
        rw [hsl] at e'
        exact (Option.some.inj e').symm
      rcases q with q | q
      · cases hk _ q
      · cases hk _ q
  have Ik := I
  obtain ⟨hh, g, d, t, os⟩ := s
  obtain ⟨oD, hD1, hD2⟩ : ∃ oD, hh.get? D = some oD ∧ oD.data = .cls cdD := by
    unfold PySem.W.clsIn at hD
    split at hD
    · rename_i c d cd' sl ho
      cases hD
      exact ⟨_, X _ _ ho, rfl⟩
    · cases hD
  obtain ⟨mb, hb1, hb2⟩ := I.mod.blt
  refine PySem.ks_wpAt_super_base (env := ksE qual (defScope st) s₀.heap.objs.size f (.ref cda) cc) S.sup S.cls hat rfl (X _ _ lk) rfl hp rfl (X _ _ hcode) rfl hvs hfile F.htop ?_
  refine PySem.W.ks_loadName_global S.kind S.sup (Calls.loadGlobal_builtin (env := ksE qual (defScope st) s₀.heap.objs.size f (.ref cda) cc) (I.mod.glob.keeps I.bk) F.nosup (hb1.keeps I.bk) ((hb2 _ (by decide +kernel)).trans (by decide +kernel : bootBuiltins ("super" : Str) = some (.type "super"))) ⟨rfl, ?_⟩)
  refine wpAny_loadName_free S.kind S.cls (c := cc) (S.clsC _ _) ⟨_, X _ _ hcell, rfl⟩ ?_
  rw [har]
  refine wpAny_loadName_local S.kind hsl hns hmu ?_
  refine PySem.ks_wpAny_isType_cls hD1 hD2 ⟨rfl, ?_⟩
  refine PySem.ks_wpAny_call_super hD1 hD2 J.at_ J.cls (fun c e => ?_) (PySem.W.looks_mroIn X hsub) (fun h' e k => ?_)
  · have := J.no
    unfold PySem.W.notCls at this
    rw [e] at this
    exact Bool.noConfusion this
  · exact h _ ⟨h', g, d, t, os⟩ e k (Ik.kept (t' := t) k)
end
end Z
namespace Z
open PySem L2
open PySem.W (ksFn ks_superIn kxs_mw envX)
open PyProof.Rows (envOfC)
def mwO (u x : Addr) : HO := .ext fun h => h.get? u = some (kxs_mw "ValueError.__init__" x)
theorem mwO_ok {P : Program} {w : World} {H : Hp} {h : Heap} {u x : Addr} (e : h.get? u = some (kxs_mw "ValueError.__init__" x)) : ObjOk P w H h u (mwO u x) := ⟨e, ⟨_, e⟩, fun _ _ q k => k _ q⟩
theorem mwO_at {P : Program} {w : World} {H : Hp} {h : Heap} {u x : Addr} (hok : HOk P w H h) (e : H u = some (mwO u x)) : h.get? u = some (kxs_mw "ValueError.__init__" x) := by
  have z : ObjOk P w H h u (.ext fun h => h.get? u = some (kxs_mw "ValueError.__init__" x)) := hok u _ e
  exact z.1
/-- what the class at C, an exception's, says to super().__init__ in a def of the class at D -/
structure SupE (K : PySem.W.Frag) (C D : Addr) : Prop where
  T : OexC K C
  su : ks_superIn K C D "__init__" = some (some (.builtin "ValueError.__init__"))
  ve : PySem.W.subIn K (.ref C) (.type "ValueError") = some true
  mr : PySem.W.mroIn K C (.ref D) = some true
  op : PySem.W.nsIn K PySem.cStatics "thirdparty.any" = some none
def tSupE (K : PySem.W.Frag) (D : Addr) (t : TA) (u' : TS) : TS := fun Dd σ H => ∃ a C, σ[0]? = some (some (.ref a)) ∧ H a = some (exo a C none) ∧ SupE K C D ∧
  ∀ u, H u = none → u ≠ a → t σ (upd H u (mwO u a)) fun vs H2 => H2 u = some (mwO u a) ∧ H2 a = some (exo a C none) ∧ vs.length ≤ 1000 ∧ u' Dd σ H2
theorem insE {P : Program} {w : World} {H : Hp} {h : Heap} {a C : Addr} (hok : HOk P w H h) (e : H a = some (exo a C none)) : ∃ ox, PySem.W.InstAt h a ox C none := by
  obtain ⟨t1, ho⟩ := exo_at hok e
  exact ⟨_, ho, rfl, rfl, trivial⟩
section
variable {CX : CXT} {P : Program} {w : World} {K : PySem.W.Frag} {mg : Str → Option Value} {base : Heap} {N ps : List Str} {x qual : Str} {st : Stmt} {f cda cc D : Addr} {fd : FuncData} {A : Around} {outer : List Env} {s₀ : Shared} {H₀ : Hp} {E₀ : XK}
theorem pssa_supE (F : SupF P K mg x qual st f cda cc D fd) (S : FnScopeS N ps (defScope st)) (hself : N[0]? = some ("self" : Str)) (hsl : (defScope st).names.lookup ("self" : Str) = some .local)
    {e : Expr} {es : List Expr} {sts : List Stmt} {p0 p1 p2 pos pos' : Pos} {t : TA} {u' : TS} {pl : Sem Bool}
    (ha : PA (cxS CX P w K mg base N qual (defScope st) f (.ref cda) cc A outer s₀ H₀ E₀) (e :: es) t) (hr : PSsA (cxS CX P w K mg base N qual (defScope st) f (.ref cda) cc A outer s₀ H₀ E₀) (defBody st) sts u')
    (he : starEach (e :: es) (ksE qual (defScope st) s₀.heap.objs.size f (.ref cda) cc) = (false, eval e (ksE qual (defScope st) s₀.heap.objs.size f (.ref cda) cc)) :: starEach es (ksE qual (defScope st) s₀.heap.objs.size f (.ref cda) cc) := by rfl)
    (hpl : (backTo pos (starEach es (ksE qual (defScope st) s₀.heap.objs.size f (.ref cda) cc))).any (·.1) = false := by rfl)
    (hs : swapsWith (.Call (.Attribute (.Call (.Name "super" p0) [] [] p1) "__init__" p2) (e :: es) [] pos) none pos'.line (ksE qual (defScope st) s₀.heap.objs.size f (.ref cda) cc) = pure false := by rfl)
    (hc : eval (.Call (.Attribute (.Call (.Name "super" p0) [] [] p1) "__init__" p2) (e :: es) [] pos) (ksE qual (defScope st) s₀.heap.objs.size f (.ref cda) cc) = (do
      let ov ← attributeBase (.Call (.Name "super" p0) [] [] p1) "__init__" (ksE qual (defScope st) s₀.heap.objs.size f (.ref cda) cc) (eval (.Call (.Name "super" p0) [] [] p1) (ksE qual (defScope st) s₀.heap.objs.size f (.ref cda) cc))
      standAt p2.atName
      let (f', first) ← holding [ov] (getMethod ov "__init__" pl)
      callWith pos f' first (backTo pos (starEach (e :: es) (ksE qual (defScope st) s₀.heap.objs.size f (.ref cda) cc))) []) := by rfl) :
    PSsA (cxS CX P w K mg base N qual (defScope st) f (.ref cda) cc A outer s₀ H₀ E₀) (defBody st) (.Expr (.Call (.Attribute (.Call (.Name "super" p0) [] [] p1) "__init__" p2) (e :: es) [] pos) pos' :: sts) (tSupE K D t u') := by
  refine ⟨fun pins s σ H Dd I h => ?_⟩
  obtain ⟨a, C, hσ, hH, SE, h⟩ := h
  refine PySem.ks_wpAt_execs_cons (PySem.ks_wpAt_Expr_any ?_ I.quiet hs)
  refine PySem.ks_wpAt_MethodCall (pl := pl) ?_ hc
  obtain ⟨ox, J⟩ := insE I.hok hH
  obtain ⟨nm, q, N', bs, bm, sn, sub, ab, col, dd, k0, k1, k2, k3, k5, hC, hbm⟩ := SE.T.cls
  refine sup_node F S hself hsl I hσ (by decide +kernel) J SE.mr fun so s1 hso k1 I1 => ?_
  have X1 : K.In s1.heap := I1.kIn
  obtain ⟨ox1, J1⟩ := insE I1.hok hH
  obtain ⟨hh, g, d, tt, os⟩ := s1
  have hI : PySem.W.Looks (model P w) hh (isInstance (.ref a) (.type "ValueError")) true := J1.type.andThen (PySem.W.looks_subIn X1 SE.ve)
  have hcl : (PySem.W.clsIn K C) = some { name := nm, bases := bs, mro := .ref C :: bm, ns := N', qualname := q, hasDict := true, slotNames := sn, subclasses := sub, abstract := ab, collection := col, hasDel := false } := by unfold PySem.W.clsIn; rw [hC] <;> rfl
  have hsu := SE.su
  unfold ks_superIn at hsu
  rw [hcl] at hsu
  refine PySem.W.kxs_getMethod PySem.W.kxs_ValueError hso (PySem.W.looks_opaque X1 SE.op) (l₀ := .ref C :: bm) ?_ rfl X1 hsu hI (PySem.W.ks_ne X1 J1 hcl) (by decide +kernel) ?_
  · exact fun A Q E s k q => wpAny_bind ((PySem.W.looks_clsIn X1 hcl) A _ E s k (wpAny_pure q))
  · have hn : H hh.objs.size = none := I1.hok.fresh (Nat.le_refl _)
    have hua : hh.objs.size ≠ a := fun z => by rw [z, hH] at hn; cases hn
    have hget : (hh.push (kxs_mw "ValueError.__init__" a)).get? hh.objs.size = some (kxs_mw "ValueError.__init__" a) := Heap.get?_push_at rfl rfl
    have I2 : Inv (cxS CX P w K mg base N qual (defScope st) f (.ref cda) cc A outer s₀ H₀ E₀) pins σ (upd H hh.objs.size (mwO hh.objs.size a)) ⟨hh.push (kxs_mw "ValueError.__init__" a), g, d, tt + 1, os⟩ :=
      I1.laid (t' := tt + 1) (fun b o z => Heap.get?_push_of_some _ z) (Nat.le_refl _) (mwO_ok hget)
    have h2 := h _ hn hua
    have run := ha.run pos pins _ σ _ _ I2 h2
    show wpAny _ _ (callWith pos (.ref hh.objs.size) [] (backTo pos (starEach (e :: es) (ksE qual (defScope st) s₀.heap.objs.size f (.ref cda) cc))) []) _ _ _
    have run' : wpAny (model P w) (A.deeper (ksE qual (defScope st) s₀.heap.objs.size f (.ref cda) cc)) (spliced (backTo pos (starEach (e :: es) (ksE qual (defScope st) s₀.heap.objs.size f (.ref cda) cc)))) _ _ _ := run
    rw [he] at run' ⊢
    refine PySem.W.kxs_callWith (i := "ValueError.__init__") (x := a) (by show (false || (backTo pos (starEach es _)).any (·.1)) = false; rw [hpl]; rfl) ?_
    refine PySem.Calls.evalArgs_plain (wpAny_mono run' (fun us s3 hq => ?_) fun _ _ z => z)
    obtain ⟨vs, H3, I3, r3, hu3, ha3, hl3, q⟩ := hq
    have hu := mwO_at I3.hok hu3
    refine ⟨hu, ?_⟩
    obtain ⟨t1, ho⟩ := exo_at I3.hok ha3
    have X3 : K.In s3.heap := I3.kIn
    have hC3 := X3 _ _ hC
    have hz : us.length ≤ sizeLine := by
      rw [← Paired.length r3, sizeLine_eq]
      omega
    obtain ⟨h3, g3, d3, t3, os3⟩ := s3
    show wpAny _ _ (call (.ref hh.objs.size) us) _ _ _
    refine wpAny_call (codeAny_of_tree ?_)
    show wpAny _ (A.deeper (ksE qual (defScope st) s₀.heap.objs.size f (.ref cda) cc)).in1 (callAny (.ref hh.objs.size) ⟨us, []⟩) _ _ _
    simp only [callAny]
    refine wpAny_bind (wpAny_load hu ?_)
    simp only [kxs_mw, show (Value.type "method-wrapper" == Value.type "method" || Value.type "method-wrapper" == Value.type "builtin_function_or_method" || Value.type "method-wrapper" == Value.type "method-wrapper") = true by decide, if_true]
    refine PySem.W.KFB.if_so (by decide) ?_
    refine wpAny_bind (PySem.W.check_bound_init PySem.F.excBase_ValueError.toExcCallFacts hC3 ho rfl ?_)
    refine wpAny_bind (wpAny_pure (wpAny_pure ?_))
    refine ⟨plainId_quiet PySem.F.excBase_ValueError.init.plain _, codeAny_builtin PySem.F.excBase_ValueError.initEntry ?_⟩
    refine PySem.W.exc_init_tree (cls := .ref C) (t0 := t1) (dv := none) (c2 := .none) (c3 := .none) (b4 := .bool false) ho hz fun h' kk hx' ht' => ?_
    have J3 := I3.write (t' := t3) (x := a) (e := a) (o := exo a C none) (by rw [ha3]; exact True.intro) (.inl rfl) kk ⟨_, hx'⟩ (exo_ok hx')
    have eu : upd H3 a (exo a C none) = H3 := by
      funext b
      by_cases hb : b = a
      · rw [hb, upd_same, ha3]
      · rw [upd_ne hb]
    rw [eu] at J3
    exact hr.run pins _ σ H3 Dd J3 q
end
end Z
set_option Elab.async false
set_option linter.all false
set_option maxRecDepth 100000
set_option maxHeartbeats 4000000
set_option autoImplicit false
namespace Z
open PySem L2
open Evl (Ex)
theorem passN {X : Cx} : Passes (L2.CX X.prog X.w) X E0 := fun _ _ _ _ _ _ _ h => by
  obtain ⟨_, _, _, _, _, _, _, _, _, _, _, _, z⟩ := h
  exact z.elim
theorem passNAt {X : Cx} : ∀ σ, PassesAt (L2.CX X.prog X.w) X σ ((fun _ => E0 : L2.St → XK) σ) := fun σ pins H s e s' I c => passN pins σ H s e s' I c
theorem pass0At {X : Cx} {E : L2.St → XK} : ∀ σ, PassesAt CX0 X σ (E σ) := fun _ _ _ _ _ _ _ h => h.elim
/-! ### own errors: made by __init__(self, f, ..): super().__init__(text); self.f = f; .. -/
def spX1 (K : PySem.W.Frag) (C : Addr) (f : Str) : Sp := fun vs H Q _ => ∃ (a : Addr) (v : V), vs = [.ref a, v] ∧ H a = some (exo a C none) ∧
  ∀ H' d, H d = none → d ≠ a → Ex (cut H a) (cut H' a) → H' a = some (exo a C (some d)) → H' d = some (exd d [(f, v)]) → Q .non H'
def spX2 (K : PySem.W.Frag) (C : Addr) (f g : Str) : Sp := fun vs H Q _ => ∃ (a : Addr) (v u : V), vs = [.ref a, v, u] ∧ H a = some (exo a C none) ∧
  ∀ H' d, H d = none → d ≠ a → Ex (cut H a) (cut H' a) → H' a = some (exo a C (some d)) → H' d = some (exd d [(g, u), (f, v)]) → Q .non H'
theorem exd_lst {d : Addr} {fs : List (Str × V)} {u : HO} (h : exd d fs = u) : ∃ φ, u = .ext φ := ⟨_, h.symm⟩
theorem read_X1 {K : PySem.W.Frag} {C D : Addr} {f : Str} {x : Str} {vs : List V} {H : Hp} {Q : VK} {E : XK} (S : SupE K C D) (hno : PySem.W.findIn K (.ref C) f = some none) (h : spX1 K C f vs H Q E) {n : Nat} (hn : n = vs.length) :
    tSupE K D (tCons (tC (.str x)) tNil) (tOst K f (tVar 0) (tVar 1)) { nx := fun _ H' => Q .non H', rt := Q } (vs.map some ++ List.replicate (n - vs.length) none) H := by
  obtain ⟨a, v, rfl, ha, k⟩ := h
  subst hn
  refine ⟨a, C, rfl, ha, S, fun u hu hua => ⟨upd_same, by rw [upd_ne (Ne.symm hua)]; exact ha, by show 1 ≤ 1000; decide, v, rfl, .ref a, rfl, a, C, rfl, S.T, hno, .inl ⟨by rw [upd_ne (Ne.symm hua)]; exact ha, fun dx hdx hda => ?_⟩⟩⟩
  have hdu : dx ≠ u := fun z => by rw [z, upd_same] at hdx; cases hdx
  rw [upd_ne hdu] at hdx
  refine k _ dx hdx hda ?_ upd_same (by rw [upd_ne hda, upd_same])
  rw [cut_upd, cut_upd_ne hda, cut_upd_ne hua]
  exact (Evl.Ex.new (by rw [cut_ne hua]; exact hu)).trans (Evl.Ex.new (by rw [upd_ne hdu, cut_ne hda]; exact hdx))
theorem read_X2 {K : PySem.W.Frag} {C D : Addr} {f g : Str} {x : Str} {vs : List V} {H : Hp} {Q : VK} {E : XK} (S : SupE K C D) (hno : PySem.W.findIn K (.ref C) f = some none) (hno2 : PySem.W.findIn K (.ref C) g = some none) (h : spX2 K C f g vs H Q E) {n : Nat} (hn : n = vs.length) :
    tSupE K D (tCons (tC (.str x)) tNil) (tSeq (tOst K f (tVar 0) (tVar 1)) (tOst K g (tVar 0) (tVar 2))) { nx := fun _ H' => Q .non H', rt := Q } (vs.map some ++ List.replicate (n - vs.length) none) H := by
  obtain ⟨a, v, w, rfl, ha, k⟩ := h
  subst hn
  refine ⟨a, C, rfl, ha, S, fun u hu hua => ⟨upd_same, by rw [upd_ne (Ne.symm hua)]; exact ha, by show 1 ≤ 1000; decide, v, rfl, .ref a, rfl, a, C, rfl, S.T, hno, .inl ⟨by rw [upd_ne (Ne.symm hua)]; exact ha, fun dx hdx hda => ?_⟩⟩⟩
  have hdu : dx ≠ u := fun z => by rw [z, upd_same] at hdx; cases hdx
  rw [upd_ne hdu] at hdx
  refine ⟨w, rfl, .ref a, rfl, a, C, rfl, S.T, hno2, .inr ⟨dx, [(f, v)], upd_same, by rw [upd_ne hda, upd_same], by show 1 ≤ 900; decide, ?_⟩⟩
  refine k _ dx hdx hda ?_ (by rw [upd_ne (Ne.symm hda), upd_same]) upd_same
  rw [cut_upd_ne hda, cut_upd, cut_upd_ne hda, cut_upd_ne hua, upd_upd]
  exact (Evl.Ex.new (by rw [cut_ne hua]; exact hu)).trans (Evl.Ex.new (by rw [upd_ne hdu, cut_ne hda]; exact hdx))
/-- raise C(e), C(e, e') -/
theorem mk_X1 {K : PySem.W.Frag} {C : Addr} {f : Str} {te : TE} {σ : L2.St} {H : Hp} {v : V} {Q : XK} (h : EV K te σ H v) (k : ∀ d H', H d = none → Ex H H' → H' d = some (.xd [(f, v)]) → Q (.ref C) (some d) H') :
    tMkO C (spX1 K C f) [] (tCons te tNil) σ H Q := h H (Ex.refl H) _ fun H1 e1 => ⟨by show 1 ≤ 1000; decide, fun a ha => ⟨a, v, rfl, upd_same, fun H' d hd hda hx h1 h2 => by
  rw [upd_ne hda] at hd
  refine ⟨rfl, d, _, h1, h2, hd, k d _ (fresh_back e1 hd) (e1.trans fun b o hb => ?_) upd_same⟩
  have hba : b ≠ a := ne_of_none hb ha
  rw [upd_ne (ne_of_none hb hd)]
  show (if b = a then none else H' b) = some o
  rw [if_neg hba]
  have := hx b o (by rw [cut_ne hba, upd_ne hba]; exact hb)
  rwa [cut_ne hba] at this⟩⟩
theorem mk_X2 {K : PySem.W.Frag} {C : Addr} {f g : Str} {te tu : TE} {σ : L2.St} {H : Hp} {v u : V} {Q : XK} (h : EV K te σ H v) (h' : EV K tu σ H u) (k : ∀ d H', H d = none → Ex H H' → H' d = some (.xd [(g, u), (f, v)]) → Q (.ref C) (some d) H') :
    tMkO C (spX2 K C f g) [] (tCons te (tCons tu tNil)) σ H Q := h H (Ex.refl H) _ fun H0 e0 => h' H0 e0 _ fun H1 e1 => ⟨by show 2 ≤ 1000; decide, fun a ha => ⟨a, v, u, rfl, upd_same, fun H' d hd hda hx h1 h2 => by
  rw [upd_ne hda] at hd
  refine ⟨rfl, d, _, h1, h2, hd, k d _ (fresh_back (e0.trans e1) hd) ((e0.trans e1).trans fun b o hb => ?_) upd_same⟩
  have hba : b ≠ a := ne_of_none hb ha
  rw [upd_ne (ne_of_none hb hd)]
  show (if b = a then none else H' b) = some o
  rw [if_neg hba]
  have := hx b o (by rw [cut_ne hba, upd_ne hba]; exact hb)
  rwa [cut_ne hba] at this⟩⟩
theorem len_X1 {K : PySem.W.Frag} {C : Addr} {f s1 s2 : Str} : ∀ vs H Q E, spX1 K C f vs H Q E → vs.length = [s1, s2].length := fun vs H Q E h => by
  obtain ⟨a, v, rfl, _⟩ := h
  rfl
theorem len_X2 {K : PySem.W.Frag} {C : Addr} {f g s1 s2 s3 : Str} : ∀ vs H Q E, spX2 K C f g vs H Q E → vs.length = [s1, s2, s3].length := fun vs H Q E h => by
  obtain ⟨a, v, u, rfl, _⟩ := h
  rfl
/-! ### a caught one: isinstance(e, c) -/
def rIsX (K : PySem.W.Frag) (a : Addr) (cls : Value) (d : Option Addr) : List V → Hp → VK → Prop := fun xs H Q => ∃ (c : V) (cv : Value) (b : Bool) (D dd : Addr) (fs : List (Str × V)), xs = [.ref a, c] ∧ cls = .ref D ∧ ExcC K D ∧ d = some dd ∧ H dd = some (.xd fs) ∧
  (∀ u, RelV c u → u = cv) ∧ PySem.W.kitOne K (.ref D) cv = some b ∧ Q (.bl b) H
theorem call_isX {X : Cx} {a : Addr} {cls : Value} {d : Option Addr} {oe : Obj} {pn : List (Addr × Obj)} (hz : Zc cls d oe) (hf : ∃ vs, oe.data = .fields vs) : CallR (X.suite a ((a, oe) :: pn)) (.builtin "isinstance") (rIsX X.K a cls d) := by
  intro pins s σ H xs us Q I r h
  obtain ⟨c, cv, b, D, dd, fs, rfl, rfl, C, rfl, hd, hcv, e, q⟩ := h
  cases r with
  | cons rx rr =>
    cases rr with
    | cons rt rr =>
      cases rr
      cases rx
      have ec := hcv _ rt
      subst ec
      obtain ⟨hget, _⟩ := I.pin (a, oe) (List.mem_append.mpr (.inl List.mem_cons_self))
      obtain ⟨vs, hv⟩ := hf
      have hx : ObjOk X.prog X.w H s.heap dd (.xd fs) := I.hok dd _ hd
      obtain ⟨mA, ⟨od, _, _, ho, _⟩, _⟩ := hx
      have J : PySem.W.InstAt s.heap a oe D (some od) := ⟨hget, hz.1, by unfold PySem.W.notCls; rw [hv] <;> rfl, by rw [hz.2]; exact ho⟩
      obtain ⟨cd, hc, _⟩ := PySem.W.any_some C.hd
      exact PySem.W.kia_one (PySem.W.kitx_exc (by rw [hc]; rfl) C.hg C.hk C.hs C.ha C.hn C.ht C.hm) I.kIn J e (fun z => nomatch z) fun tk => ⟨.bl b, H, I.kept (t' := tk) fun _ _ z => z, rfl, q⟩
/-! ### C(e, ..) where what is raised is wished for at the caller's slots -/
def tMakeS (C : Addr) (sp : Sp) (E : L2.St → XK) (t : TA) : TE := fun σ H Q => t σ H fun vs H1 => ∀ x dx, H1 x = none → H1 dx = none → dx ≠ x →
  sp (.ref x :: vs) (upd (upd H1 dx (.own x)) x (.ins C dx [])) (fun v H2 => v = .non ∧ Q (.ref x) H2) (E σ)
section
variable {X : Cx} {CX : CXT} {k : Nat} {f C : Addr} {fd : FuncData} {ps : List Str} {sp : Sp} {E : L2.St → XK} {x : Str} {p pos : Pos} {e : Expr} {es : List Expr} {t : TA}
theorem pe_makeS (M : Mk X.K C f) (F : FnOk X.prog X.w X.K X.mg X.base CX k f fd ps sp) (hr : Room (k + 1) X.A) (hg : Gl X x) (hm : X.mg x = some (.ref C)) (hb : Binds X.K fd ps []) (hx : ∀ σ, PassesAt CX X σ (E σ))
    (ha : PA X (e :: es) t) (hdb : (x == ("__debug__" : Str)) = false := by decide) (he : starEach (e :: es) X.env = (false, eval e X.env) :: starEach es X.env := by rfl) (hpl : (backTo pos (starEach es X.env)).any (·.1) = false := by rfl) :
    PE X (.Call (.Name x p) (e :: es) [] pos) (tMakeS C sp E t) := by
  refine ⟨fun pins s0 σ H0 Q I0 h => wpAny_Call_Name_kw (ld_glob I0 hg hm ?_ hdb)⟩
  refine PySem.W.callWith_K (h₀ := X.base) I0.ok.mod.kin M.kp (thn (ha.run pos pins s0 σ H0 _ I0 h) fun us s ⟨vs, H, I, r, h⟩ => ⟨I.kIn, ?_⟩) he hpl
  have hq := h (s.heap.objs.size + 1) s.heap.objs.size (I.hok.fresh (Nat.le_succ _)) (I.hok.fresh (Nat.le_refl _)) (Nat.ne_of_lt (Nat.lt_succ_self _))
  have I2 := Inv.made (C := C) I
  have r2 : Vals (V.ref (s.heap.objs.size + 1) :: vs) (Value.ref (s.heap.objs.size + 1) :: us) := .cons rfl r
  have hl := (r2.length.symm.trans (F.len _ _ _ _ hq))
  have hbb := hb _ (Value.ref (s.heap.objs.size + 1) :: us) I2.kIn (by rw [List.append_nil]; exact hl)
  rw [List.append_nil] at hbb
  refine wpAny_call (make_map (f := f) I.kIn M.makes M.init (beq_iff_eq.mp M.fn) (codeAny_mono (F.run _ X.stack _ _ _ _ _ _ (E σ) (hr.make C us []) (I2.env0.make C us []) hbb r2 hq) fun r s' hq' => ?_))
  cases r with
  | error er => exact hx σ pins _ _ er s' I2 hq'
  | ok fl =>
    cases fl with
    | ret u =>
      obtain ⟨v, H', I3, rv, ev, q3⟩ := I2.after hq'
      subst ev
      exact ⟨rv, ⟨V.ref (s.heap.objs.size + 1), H', I3, rfl, q3⟩⟩
    | next => exact False.elim hq'
    | brk => exact False.elim hq'
    | cont => exact False.elim hq'
end
/-! ### a op b by an own method of both -/
structure OpC (K : PySem.W.Frag) (C f : Addr) (m : Str) : Prop where
  first : PySem.W.selfFirst K C = true
  at_ : PySem.W.findIn K (.ref C) m = some (some (.ref f))
  fn : PySem.W.isFn K (.ref f) = true
def tOwnOp (C : Addr) (sp : Sp) (E : L2.St → XK) (ta tb : TE) : TE := fun σ H Q => ta σ H fun x H1 => tb σ H1 fun y H2 => ∃ a dx fs b dy gs c, x = .ref a ∧ y = .ref b ∧ H2 a = some (.ins C dx fs) ∧ H2 b = some (.ins C dy gs) ∧
  sp [x, y] H2 (fun v H3 => v = .ref c ∧ Q v H3) (E σ)
def tOwnOp' (C : Addr) (sp : Sp) (E : L2.St → XK) (ta tb : TE) : TE := fun σ H Q => ta σ H fun x H1 => tb σ H1 fun y H2 => ∃ a dx fs b dy gs, x = .ref a ∧ y = .ref b ∧ H2 a = some (.ins C dx fs) ∧ H2 b = some (.ins C dy gs) ∧ sp [x, y] H2 Q (E σ)
theorem relV_ni {v : V} {Q : Value → Shared → Prop} {u : Value} {s : Shared} (r : RelV v u) (q : Q u s) : PySem.W.CmpBack Q u s := by
  cases v with
  | non => cases (show u = _ from r); exact q
  | bl _ => cases (show u = _ from r); exact q
  | int _ => obtain ⟨t, rfl⟩ := r; exact q
  | str _ => obtain ⟨t, rfl⟩ := r; exact q
  | byt _ => obtain ⟨t, rfl⟩ := r; exact q
  | flt _ => obtain ⟨t, rfl⟩ := r; exact q
  | ref _ => cases (show u = _ from r); exact q
  | ty _ => cases (show u = _ from r); exact q
section
variable {X : Cx} {CX : CXT} {k : Nat} {f C : Addr} {fd : FuncData} {ps : List Str} {sp : Sp} {E : L2.St → XK} {pos : Pos} {a b : Expr} {ta tb : TE} {op : Operator}
theorem pe_own (O : OpC X.K C f (PySem.dunder op.info.2)) (F : FnOk X.prog X.w X.K X.mg X.base CX k f fd ps sp) (hr : Room k X.A) (hb : Binds X.K fd ps []) (hx : ∀ σ, PassesAt CX X σ (E σ)) (ha : PE X a ta) (hb' : PE X b tb) :
    PE X (.BinOp a op b pos) (tOwnOp' C sp E ta tb) := by
  refine ⟨fun pins s σ H Q I h => wpAny_BinOp (bin ha hb' I h fun v u s2 x y H2 I2 rx ry q => ?_)⟩
  obtain ⟨p, dx, fs, r, dy, gs, rfl, rfl, hp, hq, hs⟩ := q
  obtain rfl : v = Value.ref p := rx
  obtain rfl : u = Value.ref r := ry
  obtain ⟨mA, O1, _⟩ := ins_get I2.hok hp
  obtain ⟨od, J, _⟩ := O1.look
  obtain ⟨mB, O2, _⟩ := ins_get I2.hok hq
  obtain ⟨od', J', _⟩ := O2.look
  obtain ⟨m, hF⟩ := I2.fr
  refine PySem.W.binop_K hF I2.ok.mod.kin J J'.type O.first O.at_ O.fn ?_
  refine thn (run_fnS F hr hb (hx σ) (vs := [.ref p, .ref r]) (us := [.ref p, .ref r]) I2 (.cons rfl (.cons rfl .nil)) hs) fun v s' hv => ?_
  obtain ⟨w, H', I', rw', q⟩ := hv
  exact relV_ni rw' ⟨w, H', I', rw', q⟩
end
end Z
set_option Elab.async false
set_option linter.all false
set_option maxRecDepth 100000
set_option maxHeartbeats 4000000
set_option autoImplicit false
namespace Z
open PySem L2
open PySem.W (ksFn ks_superIn)
/-- what an instance of the class at C says to super().__init__ in a def of the class at D: the own def at f2 -/
structure SupM (K : PySem.W.Frag) (C D f2 : Addr) : Prop where
  su : ks_superIn K C D "__init__" = some (some (.ref f2))
  ty : PySem.W.typeIn K (.ref f2) = some (.type "function")
  mr : PySem.W.mroIn K C (.ref D) = some true
  op : PySem.W.nsIn K PySem.cStatics "thirdparty.any" = some none
  fi : PySem.W.fnIn K f2 = true
def tSupM (K : PySem.W.Frag) (D f2 : Addr) (sp : Sp) (E : XK) (t : TA) (u' : TS) : TS := fun Dd σ H => ∃ a C dx fs, σ[0]? = some (some (.ref a)) ∧ H a = some (.ins C dx fs) ∧ SupM K C D f2 ∧
  ∀ q, H q = none → q ≠ a → t σ (upd H q (.met f2 a)) fun vs H2 => H2 q = some (.met f2 a) ∧ sp (.ref a :: vs) H2 (fun _ H3 => u' Dd σ H3) E
section
variable {CX CY : CXT} {P : Program} {w : World} {K : PySem.W.Frag} {mg : Str → Option Value} {base : Heap} {N ps : List Str} {x qual : Str} {st : Stmt} {f cda cc D : Addr} {fd : FuncData} {A : Around} {outer : List Env} {s₀ : Shared} {H₀ : Hp} {E₀ : XK}
theorem pssa_supM (F : SupF P K mg x qual st f cda cc D fd) (S : FnScopeS N ps (defScope st)) (hself : N[0]? = some ("self" : Str)) (hsl : (defScope st).names.lookup ("self" : Str) = some .local)
    {e : Expr} {es : List Expr} {sts : List Stmt} {p0 p1 p2 pos pos' : Pos} {t : TA} {u' : TS} {pl : Sem Bool} {k : Nat} {f2 : Addr} {fd2 : FuncData} {ps2 : List Str} {sp : Sp} {E : XK}
    (G : FnOk P w K mg base CY k f2 fd2 ps2 sp) (hr2 : Room k (A.deeper (ksE qual (defScope st) s₀.heap.objs.size f (.ref cda) cc))) (hb2 : Binds K fd2 ps2 []) (hx : Passes CY (cxS CX P w K mg base N qual (defScope st) f (.ref cda) cc A outer s₀ H₀ E₀) E)
    (ha : PA (cxS CX P w K mg base N qual (defScope st) f (.ref cda) cc A outer s₀ H₀ E₀) (e :: es) t) (hr : PSsA (cxS CX P w K mg base N qual (defScope st) f (.ref cda) cc A outer s₀ H₀ E₀) (defBody st) sts u')
    (he : starEach (e :: es) (ksE qual (defScope st) s₀.heap.objs.size f (.ref cda) cc) = (false, eval e (ksE qual (defScope st) s₀.heap.objs.size f (.ref cda) cc)) :: starEach es (ksE qual (defScope st) s₀.heap.objs.size f (.ref cda) cc) := by rfl)
    (hpl : (backTo pos (starEach es (ksE qual (defScope st) s₀.heap.objs.size f (.ref cda) cc))).any (·.1) = false := by rfl)
    (hs : swapsWith (.Call (.Attribute (.Call (.Name "super" p0) [] [] p1) "__init__" p2) (e :: es) [] pos) none pos'.line (ksE qual (defScope st) s₀.heap.objs.size f (.ref cda) cc) = pure false := by rfl)
    (hc : eval (.Call (.Attribute (.Call (.Name "super" p0) [] [] p1) "__init__" p2) (e :: es) [] pos) (ksE qual (defScope st) s₀.heap.objs.size f (.ref cda) cc) = (do
      let ov ← attributeBase (.Call (.Name "super" p0) [] [] p1) "__init__" (ksE qual (defScope st) s₀.heap.objs.size f (.ref cda) cc) (eval (.Call (.Name "super" p0) [] [] p1) (ksE qual (defScope st) s₀.heap.objs.size f (.ref cda) cc))
      standAt p2.atName
      let (f', first) ← holding [ov] (getMethod ov "__init__" pl)
      callWith pos f' first (backTo pos (starEach (e :: es) (ksE qual (defScope st) s₀.heap.objs.size f (.ref cda) cc))) []) := by rfl) :
    PSsA (cxS CX P w K mg base N qual (defScope st) f (.ref cda) cc A outer s₀ H₀ E₀) (defBody st) (.Expr (.Call (.Attribute (.Call (.Name "super" p0) [] [] p1) "__init__" p2) (e :: es) [] pos) pos' :: sts) (tSupM K D f2 sp E t u') := by
  refine ⟨fun pins s σ H Dd I h => ?_⟩
  obtain ⟨a, C, dx, fs, hσ, hH, SM, h⟩ := h
  refine PySem.ks_wpAt_execs_cons (PySem.ks_wpAt_Expr_any ?_ I.quiet hs)
  refine PySem.ks_wpAt_MethodCall (pl := pl) ?_ hc
  obtain ⟨mA, O, _⟩ := ins_get I.hok hH
  obtain ⟨od, J, _⟩ := O.look
  refine sup_node F S hself hsl I hσ (by decide +kernel) J SM.mr fun so s1 hso k1 I1 => ?_
  have X1 : K.In s1.heap := I1.kIn
  obtain ⟨mA1, O1, _⟩ := ins_get I1.hok hH
  obtain ⟨od1, J1, _⟩ := O1.look
  obtain ⟨hh, g, d, tt, os⟩ := s1
  have hsu := SM.su
  cases hcl : PySem.W.clsIn K C with
  | none => unfold ks_superIn at hsu; rw [hcl] at hsu; cases hsu
  | some cd =>
    unfold ks_superIn at hsu
    rw [hcl] at hsu
    obtain ⟨of, hof, hofc⟩ : ∃ of, hh.get? f2 = some of ∧ of.cls = .type "function" := by
      have ht' : (K.lookup f2).map (·.cls) = some (.type "function") := SM.ty
      cases z : K.lookup f2 with
      | none => rw [z] at ht'; cases ht'
      | some of => rw [z] at ht'; exact ⟨of, X1 _ _ z, Option.some.inj ht'⟩
    refine PySem.ks_wpAny_getMethod_super hso (PySem.W.looks_opaque X1 SM.op) (l₀ := cd.mro) ?_ rfl X1 hsu hof hofc (PySem.W.ks_ne X1 J1 hcl) (by decide +kernel) ?_
    · exact fun A Q E s k q => wpAny_bind ((PySem.W.looks_clsIn X1 hcl) A _ E s k (wpAny_pure q))
    · have hn : H hh.objs.size = none := I1.hok.fresh (Nat.le_refl _)
      have hua : hh.objs.size ≠ a := fun z => by rw [z, hH] at hn; cases hn
      have I2 : Inv (cxS CX P w K mg base N qual (defScope st) f (.ref cda) cc A outer s₀ H₀ E₀) pins σ (upd H hh.objs.size (.met f2 a)) ⟨hh.push (PySem.W.methodObj (.ref f2) (.ref a)), g, d, tt + 1, os⟩ :=
        I1.laid (t' := tt + 1) (a := hh.objs.size) (o := .met f2 a) (fun b u z => Heap.get?_push_of_some _ z) (Nat.le_refl _)
          (show (hh.push (PySem.W.methodObj (.ref f2) (.ref a))).get? hh.objs.size = some (PySem.W.methodObj (.ref f2) (.ref a)) from Heap.get?_push_size hh rfl)
      have run := ha.run pos pins _ σ _ _ I2 (h _ hn hua)
      show wpAny _ _ (callWith pos (.ref hh.objs.size) [] (backTo pos (starEach (e :: es) (ksE qual (defScope st) s₀.heap.objs.size f (.ref cda) cc))) []) _ _ _
      have run' : wpAny (model P w) (A.deeper (ksE qual (defScope st) s₀.heap.objs.size f (.ref cda) cc)) (spliced (backTo pos (starEach (e :: es) (ksE qual (defScope st) s₀.heap.objs.size f (.ref cda) cc)))) _ _ _ := run
      rw [he] at run' ⊢
      refine callwith_met (X := cxS CX P w K mg base N qual (defScope st) f (.ref cda) cc A outer s₀ H₀ E₀) (g := f2) (a := a) (by show ((false || (backTo pos (starEach es _)).any (·.1)) || false) = false; rw [hpl]; rfl) SM.fi ?_
      refine PySem.Calls.evalArgs_plain (wpAny_mono run' (fun us s3 hq => ?_) fun _ _ z => z)
      obtain ⟨vs, H3, I3, r3, hm3, q⟩ := hq
      refine ⟨met_P I3 hm3, ?_⟩
      have fr := FnOk.raw (ds := []) (dvs := []) G hb2 .nil
      refine wpAny_call (PySem.W.method_call (met_P I3 hm3).1 ?_)
      refine codeAny_mono (run_fnR (X := cxS CX P w K mg base N qual (defScope st) f (.ref cda) cc A outer s₀ H₀ E₀) (us := Value.ref a :: us) (vs := V.ref a :: vs) fr hr2 hx I3 (.cons rfl r3) (by rw [List.append_nil]; exact q)) fun r s' hq => ?_
      cases r with
      | error er => exact hq
      | ok fl =>
        cases fl with
        | ret v =>
          obtain ⟨w', H', I4, rw', q4⟩ := hq
          exact hr.run pins _ σ H' Dd I4 q4
        | next => exact False.elim hq
        | brk => exact False.elim hq
        | cont => exact False.elim hq
end
end Z
set_option Elab.async false
set_option linter.all false
set_option maxRecDepth 100000
set_option maxHeartbeats 4000000
set_option autoImplicit false
namespace Z
open PySem L2
open Evl (Ex)
section
variable {X : Cx} {pins : List (Addr × Obj)} {σ : L2.St} {H : Hp} {s : Shared}
/-- a tracked thing that is only told by a fact is let go -/
theorem inv_drop {it : Addr} {φ : Heap → Prop} (I : Inv X pins σ H s) (e : H it = some (.ext φ)) : Inv X pins σ (cut H it) s := by
  have ne : ∀ b o, H b = some o → o ≠ .ext φ → b ≠ it := fun b o h d z => by
    rw [z, e] at h
    exact d (Option.some.inj h).symm
  have up : ∀ b o, H b = some o → o ≠ .ext φ → cut H it b = some o := fun b o h d => by
    rw [cut_ne (ne b o h d)]
    exact h
  have no : ∀ b, H b = none → cut H it b = none := fun b h => by
    by_cases q : b = it
    · rw [q, cut_same]
    · rw [cut_ne q]
      exact h
  refine ⟨I.ok, I.os, I.bare, ⟨I.base.keep, I.base.slot, fun b o a c d => no b (I.base.free b o a c d), I.base.there, fun b xs h => up b _ (I.base.tups b xs h) (by intro z; cases z), fun b o u h => up b _ (I.base.frzs b o u h) (by intro z; cases z), fun b ps h => ?_⟩,
    I.loc, I.cell, no _ I.free, fun x c h => no c (I.freeC x c h), fun p hp => ?_, fun b o h => ?_, I.len⟩
  · obtain ⟨m, h⟩ := I.base.tbls b ps h
    exact ⟨m, up b _ h (by intro z; cases z)⟩
  · obtain ⟨h1, h2, h3⟩ := I.pin p hp
    exact ⟨h1, no _ h2, h3⟩
  · have hb : b ≠ it := fun z => by rw [z, cut_same] at h; cases h
    rw [cut_ne hb] at h
    exact (I.hok b o h).stay (fun _ _ _ q => q) (fun c h => up c _ h (by intro z; cases z)) fun c xs h => up c _ h (by intro z; cases z)
/-- a new tracked thing, told by a fact, may be an iterator -/
theorem fp_new {H' : Hp} {s' : Shared} {it : Addr} {u : HO} (I : Inv X pins σ H s) (I' : Inv X pins σ H' s') (big : s.heap.objs.size ≤ it) (e : H' it = some u) : FpOk X pins (cut H' it) it := by
  have nn : ∀ b, H' b = none → b ≠ it := fun b h z => by rw [z, e] at h; cases h
  exact ⟨cut_same, (nn _ I'.free).symm, fun z => nn it (by
      obtain ⟨_, o, ho, _⟩ := I'.ok.funs.mem z
      exact I'.base.free it o ho (I'.ok.frf it z) fun y => I'.ok.exfs it y z) rfl, .inr (Nat.le_trans I.sz big), fun x c h => nn c (I'.freeC x c h), fun p hp => nn _ (I'.pin p hp).2.1⟩
end
/-! ### a promise that knows how large the heap was at the call -/
structure FnOkN (P : Program) (w : World) (K : PySem.W.Frag) (mg : Str → Option Value) (base : Heap) (CX : CXT) (k : Nat) (f : Addr) (fd : FuncData) (ps : List Str) (sp : Nat → Sp) : Prop where
  len : ∀ n vs H Q E, sp n vs H Q E → vs.length = ps.length
  run : ∀ (A : Around) (outer : List Env) (s : Shared) (H : Hp) (args : Args) (us : List Value) (vs : List V) (Q : VK) (E : XK), Room k A → Env0 P w K mg base A outer s H → BindsTo s fd args (ps.zip us) → Vals vs us → sp s.heap.objs.size vs H Q E →
    codeAny (model P w) A (.call (.ref f) args) (CR CX outer P w H s Q E) s
theorem fun_okN {CX : CXT} {P : Program} {w : World} {K : PySem.W.Frag} {mg : Str → Option Value} {base : Heap} {k : Nat} {f : Addr} {fd : FuncData} {x qual : Str} {st : Stmt} {N ps : List Str} {sp : Nat → Sp} (F : Fun K x qual st f fd) (S : FnScope N ps (defScope st))
    (len : ∀ n vs H Q E, sp n vs H Q E → vs.length = ps.length)
    (hbody : ∀ (cdv : Value) (A : Around) (outer : List Env) (s : Shared) (H : Hp) (vs : List V) (Q : VK) (E : XK), Room k (A.deeper (PyProof.Rows.envOfC qual (defScope st) s.heap.objs.size f cdv)) → sp s.heap.objs.size vs H Q E →
      ∃ t, PSs (cxOf CX P w K mg base N qual (defScope st) f cdv A outer s H E) (defBody st) t ∧ t { nx := fun _ H' => Q .non H', rt := Q } (L2.start N vs) H) : FnOkN P w K mg base CX (k + 1) f fd ps sp := by
  obtain ⟨oc, od, kV, doc, pm, an, cdv, ct, osl, rfl, lk, hcd⟩ := F.ex
  refine ⟨len, fun A outer s H args us vs Q E hr e0 hb r hsp => ?_⟩
  have hl := len _ _ _ _ _ hsp
  have up : ∀ b o, base.get? b = some o → s.heap.get? b = some o := fun b o e => (e0.bs b o e).1
  have KX : K.In s.heap := e0.mod.kin.keeps up
  refine codeAny_call_function hr.depth (KX _ _ lk) rfl S.co S.gen rfl (PySem.W.codeRec_of KX hcd) (hb _ _ _ _ (wpAny_newFunctionEnv_cells S.kind (fun ⟨n, v⟩ hy => ?_) fun env he s1 x => ?_))
  · rcases S.par n (List.of_mem_zip hy).1 with q | q
    · exact .inl q
    · exact .inr ⟨q, PySem.W.cellsFrom_some _ _ _ (.inl q)⟩
  · subst he
    refine ⟨(e0.mod.nolimit.keeps up).keeps x.toInCall.keep, codeAny_func ?_⟩
    obtain ⟨t, ht, hq⟩ := hbody cdv A outer s H vs Q E (hr.deeper _) hsp
    have I : Inv (cxOf CX P w K mg base N qual (defScope st) f cdv A outer s H E) [] (L2.start N vs) H s1 := inv_start S hr.hd e0 hl r x
    refine wpAny_mono (ht.run [] s1 (L2.start N vs) H _ I hq) (fun fl s' hs => ?_) fun e s' hs => hs
    cases fl with
    | ret u =>
      obtain ⟨v, σ', H', J, rv, q⟩ := hs
      exact ⟨v, H', J.os, J.bare, J.base, J.hok, rv, q⟩
    | next =>
      obtain ⟨σ', H', J, q⟩ := hs
      exact ⟨V.non, H', J.os, J.bare, J.base, J.hok, rfl, q⟩
    | brk =>
      obtain ⟨_, _, _, q⟩ := hs
      exact False.elim q
    | cont =>
      obtain ⟨_, _, _, q⟩ := hs
      exact False.elim q
def rIterN (n : Nat) (K : PySem.W.Frag) : List V → Hp → VK → Prop := fun xs H Q => ∃ (l : Addr) (zs : List V), xs = [.ref l] ∧ SqL K H l zs ∧ ∀ it, H it = none → n ≤ it → Q (.ref it) (upd H it (ItO l it 0))
theorem call_iterN {X : Cx} : CallR X (.builtin "iter") (rIterN X.s_0.heap.objs.size X.K) := by
  intro pins s σ H xs us Q I r h
  obtain ⟨l, zs, rfl, hq, k⟩ := h
  cases r with
  | cons r1 r2 =>
    cases r2
    cases r1
    obtain ⟨its, rv, p, hz⟩ := I.list hq
    refine GNX.call_iter p.isList ?_
    have e : (s.heap.push (GNX.itObj l 0)).get? s.heap.objs.size = some (GNX.itObj l 0) := Heap.get?_push_at rfl rfl
    exact ⟨.ref s.heap.objs.size, _, I.laid (t' := s.toks) (fun b u q => Heap.get?_push_of_some _ q) (Nat.le_refl _) (itO_ok e), rfl, k _ (I.hok.fresh (Nat.le_refl _)) I.sz⟩
/-- a class whose instances hand on a list's iterator -/
structure OwnIt (K : PySem.W.Frag) (C f : Addr) : Prop where
  at_ : PySem.W.findIn K (.ref C) "__iter__" = some (some (.ref f))
  fn : PySem.W.isFn K (.ref f) = true
def iOwn (K : PySem.W.Frag) (C : Addr) (sp : Nat → Sp) (ta : TE) : TI := fun σ H R => ta σ H fun x H1 => ∃ a dx fs, x = .ref a ∧ H1 a = some (.ins C dx fs) ∧
  ∀ n, sp n [x] H1 (fun v H2 => ∃ l it xs, v = .ref it ∧ n ≤ it ∧ H2 it = some (ItO l it 0) ∧ SqL K (cut H2 it) l xs ∧ R (Itl K l) (cut H2 it)) E0
theorem sp_next {A : Around} {M : Model} {E : Value → Shared → Prop} {s : Shared} {l it : Addr} {i : Nat} {Q : Option Value → Shared → Prop} (h : s.heap.IsListIter it l i) (q : Q (some (.builtin "list_iterator.__next__")) s) : wpAny M A (specialOf (.ref it) "__next__") Q E s := by
  obtain ⟨o, ho, hc, _⟩ := h
  exact wpAny_specialOf ⟨o, ho, hc⟩ PySem.slot_listiter_next.lookup q
theorem pi_own {X : Cx} {CX : CXT} {k : Nat} {f C : Addr} {fd : FuncData} {ps : List Str} {sp : Nat → Sp} {tg e : Expr} {ta : TE} (O : OwnIt X.K C f) (F : FnOkN X.prog X.w X.K X.mg X.base CX k f fd ps sp) (hr : Room k X.A) (hb : Binds X.K fd ps []) (hx : Passes CX X E0) (he : PE X e ta) :
    PI X tg e (iOwn X.K C sp ta) := by
  refine ⟨fun pins s0 σ H0 R I0 h => thn (he.run pins s0 σ H0 _ I0 h) fun v s ⟨x, H, I, r, q⟩ => ?_⟩
  obtain ⟨a, dx, fs, rfl, ha, hs⟩ := q
  obtain rfl : v = Value.ref a := r
  obtain ⟨mA, O1, _⟩ := ins_get I.hok ha
  obtain ⟨od, J, _⟩ := O1.look
  obtain ⟨m, hF⟩ := I.fr
  refine PySem.W.owit_iter hF I.ok.mod.kin J O.at_ O.fn ?_
  have hl : [V.ref a].length = ps.length := F.len _ _ _ _ _ (hs 0)
  have b := hb s [Value.ref a] I.kIn (by rw [List.append_nil]; exact hl)
  rw [List.append_nil] at b
  refine wpAny_call (codeAny_mono (F.run X.A X.stack s H ⟨[.ref a], []⟩ [.ref a] [.ref a] _ E0 hr I.env0 b (.cons rfl .nil) (hs _)) fun r s' hq => ?_)
  cases r with
  | error er => exact hx pins σ H s er s' I hq
  | ok fl =>
    cases fl with
    | next => exact False.elim hq
    | brk => exact False.elim hq
    | cont => exact False.elim hq
    | ret u =>
      obtain ⟨v, H', os2, bare2, un2, hok2, rv, l, it, xs, rfl, hn, hi, hsq, hR⟩ := hq
      have I' : Inv X pins σ H' s' := I.call' (ch := []) os2 un2 hok2 bare2 fun b z => absurd z (by simp)
      obtain rfl : u = Value.ref it := rv
      have hg := itO_get I' hi
      have st : s'.heap.IsListIter it l 0 := ⟨_, hg, rfl, rfl⟩
      refine sp_next st ?_
      show PIE X pins σ tg R (.ref it) s'
      refine ⟨it, [it], _, Itl X.K l, cut H' it, rfl, inv_drop I' hi, turn_list l it, st, fun c hc => ?_, hR⟩
      obtain rfl : c = it := by simpa using hc
      exact fp_new I I' hn hi
end Z
set_option Elab.async false
set_option linter.all false
set_option maxRecDepth 100000
set_option maxHeartbeats 2000000
set_option autoImplicit false
namespace Z
open PySem L2
open Evl (Ex)
open Dat
theorem Tups.insU {H : Hp} {p C dx : Addr} {fs : List (Str × V)} {o : HO} (h : H p = some (.ins C dx fs)) : Tups H (L2.upd H p o) := fun a ys r => by
  rw [upd_ne (fun z => by rw [z, h] at r; cases r)]
  exact r
theorem Reps.int_map {K : PySem.W.Frag} {H : Hp} (ns : List Int) : Reps K H (ns.map V.int) ns := by
  induction ns with
  | nil => exact reps_nil
  | cons n ns ih => exact Reps.cons (rep_int n) ih
/-! ### what is walked as a list's items -/
section
variable {K : PySem.W.Frag} {α β : Type} [Dat α] [Dat β] {σ : L2.St} {G H : Hp} {te tl : TE} {ti : TI} {tt : TT} {i : Nat}
def EIt (K : PySem.W.Frag) {α : Type} [Dat α] (ti : TI) (σ : L2.St) (H : Hp) (xs : List α) : Prop := ∀ H1, Ex H H1 → ∀ R : It → Hp → Prop, (∀ l zs H2, Ex H1 H2 → SqL K H2 l zs → Reps K H2 zs xs → R (Itl K l) H2) → ti σ H1 R
theorem ei_list {xs : List α} (h : ER K tl σ H xs) : EIt K (iList K tl) σ H xs := fun H1 e R q => h H1 e _ fun v H2 e2 r => by
  obtain ⟨a, vs, rfl, s, r⟩ := Rep.list r
  exact ⟨a, rfl, ⟨vs, s⟩, q a vs H2 e2 s r⟩
theorem el_mapI {xs : List α} {f : α → β} [Flat β] (h : EIt K ti σ H xs) (he : ∀ x v H', x ∈ xs → Ex H H' → Rep K H' v x → ER K te ((wipe σ [i]).set i (some v)) H' (f x)) (hz : xs.length ≤ 100000) :
    EL K (tLc ti (gName i) tYes te [i]) σ H (xs.map f) := fun H0 e0 Q q => h H0 e0 _ fun a vs H1 e1 s r => by
  refine fun D hD => lc_list (K := K) (a := a) (xs := vs) (fun j H' => Ex H1 H' ∧ Own K H' D ((xs.take j).map f)) ⟨Evl.Ex.new hD, by simpa using Own.nil⟩ (fun j H' _ z => Evl.ex_l z.1 s) (fun j v H' hj z => ?_) (fun H' z => ?_)
  · obtain ⟨x, hx, rx⟩ := r.got hj
    have hlt : j < xs.length := (List.getElem?_eq_some_iff.mp hx).1
    refine ⟨wipe1 _, he x v H' (List.mem_of_getElem? hx) (e0.trans (e1.trans z.1)) (rx.mono z.1) H' (Ex.refl H') _ fun w H2 e2 rw' => ?_⟩
    obtain ⟨acc, h1, r1⟩ := (z.2.mono e2).ex
    refine ⟨acc, h1, Evl.sz_lt (by rw [r1.len, List.length_map, List.length_take]; omega), ex_mut (z.1.trans e2) hD, acc ++ [w], upd_same, ?_⟩
    rw [cut_upd, show xs.take (j + 1) = xs.take j ++ [x] by rw [List.take_succ, hx]; rfl, List.map_append]
    exact r1.append (Reps.cons (rw'.imm (Tups.cut h1)) reps_nil)
  · have e : xs.take vs.length = xs := by rw [r.len, List.take_length]
    rw [e] at z
    exact q D H' (fresh_back e1 hD) (e1.trans z.1) z.2
theorem el_idI {xs : List α} [Flat α] (h : EIt K ti σ H xs) (hi : i < σ.length) (hz : xs.length ≤ 100000) : EL K (tLc ti (gName i) tYes (tVar i) [i]) σ H xs := by
  have := el_mapI (i := i) (te := tVar i) (f := fun x : α => x) h (fun x v H' _ _ r => er_var (by
    rw [List.getElem?_set_self]
    show i < (σ.set i none).length
    rw [List.length_set]
    exact hi) r (Ex.refl _)) hz
  rwa [List.map_id'] at this
/-! ### raise C(e, ..), of values that stand for data -/
theorem mk_X1R {C : Addr} {f : Str} {x : α} {Q : XK} (h : ER K te σ H x) (k : ∀ v d H', H d = none → Ex H H' → Rep K H' v x → H' d = some (.xd [(f, v)]) → Q (.ref C) (some d) H') : tMkO C (spX1 K C f) [] (tCons te tNil) σ H Q :=
  h H (Ex.refl H) _ fun v H1 e1 r => mk_X1 (K := K) (te := tC v) (σ := σ) (H := H1) (v := v) ev_c fun d H' hd e' hx => k v d H' (fresh_back e1 hd) (e1.trans e') (r.mono e') hx
theorem mk_X2R {C : Addr} {f g : Str} {x : α} {y : β} {Q : XK} (h : ER K te σ H x) (h2 : ER K tl σ H y) (k : ∀ v u d H', H d = none → Ex H H' → Rep K H' v x → Rep K H' u y → H' d = some (.xd [(g, u), (f, v)]) → Q (.ref C) (some d) H') : tMkO C (spX2 K C f g) [] (tCons te (tCons tl tNil)) σ H Q :=
  h H (Ex.refl H) _ fun v H1 e1 r => h2 H1 e1 _ fun u H2 e2 r2 => mk_X2 (K := K) (te := tC v) (tu := tC u) (σ := σ) (H := H2) (v := v) (u := u) ev_c ev_c fun d H' hd e' hx => k v u d H' (fresh_back (e1.trans e2) hd) ((e1.trans e2).trans e') (r.mono (e2.trans e')) (r2.mono e') hx
/-- a field of a caught one -/
theorem er_xf {a C dd : Addr} {f : Str} {fs : List (Str × V)} {v : V} {x : α} (h : EV K te σ H (.ref a)) (hd : G dd = some (.xd fs)) (e : Ex G H) (hl : fs.lookup f = some v) (r : Rep K G v x) : ER K (tXf a (.ref C) (some dd) C f te) σ H x := fun H1 e1 Q q =>
  h H1 e1 _ fun H2 e2 => ⟨rfl, rfl, dd, fs, v, rfl, (e.trans (e1.trans e2)) _ _ hd, hl, q v H2 e2 (r.mono (e.trans (e1.trans e2)))⟩
theorem s_drop {D : Ends} (h : te σ H fun _ H' => D.nx σ H') : tDrop te D σ H := h
theorem s_mkS {C : Addr} {sp : Sp} {E : L2.St → XK} {xs : α} {Q : VK} (h : ER K te σ H xs) (k : ∀ v H1, Ex H H1 → Rep K H1 v xs → ∀ x dx, H1 x = none → H1 dx = none → dx ≠ x → sp [.ref x, v] (upd (upd H1 dx (.own x)) x (.ins C dx [])) (fun v H2 => v = .non ∧ Q (.ref x) H2) (E σ)) :
    tMakeS C sp E (tCons te tNil) σ H Q := h H (Ex.refl H) _ k
/-! ### isinstance of an own instance, of a caught error -/
theorem er_isiO {r C : Addr} {c : V} {cv : Value} {b : Bool} (h : EV K te σ H (.ref r)) (ty : ∀ H2, Ex H H2 → TyX K H2 (.ref r) (.ref C)) (cc : ClsV c cv) (hk : PySem.W.kitOne K (.ref C) cv = some b) :
    ER K (tCB (rIsi K) (tCons te (tCons (tC c) tNil))) σ H b := fun H1 e Q q =>
  h H1 e _ fun H2 e2 => ⟨.ref r, c, .ref C, cv, b, rfl, cc, ty H2 (e.trans e2), hk, q _ H2 e2 (rep_bool _)⟩
theorem er_isX {a C dd : Addr} {fs : List (Str × V)} {c : V} {cv : Value} {b : Bool} (h : EV K te σ H (.ref a)) (hd : G dd = some (.xd fs)) (e : Ex G H) (xc : ExcC K C) (hc : ∀ u, RelV c u → u = cv) (hk : PySem.W.kitOne K (.ref C) cv = some b) :
    ER K (tCB (rIsX K a (.ref C) (some dd)) (tCons te (tCons (tC c) tNil))) σ H b := fun H1 e1 Q q =>
  h H1 e1 _ fun H2 e2 => ⟨c, cv, b, C, dd, fs, rfl, rfl, xc, rfl, (e.trans (e1.trans e2)) _ _ hd, hc, hk, q _ H2 e2 (rep_bool _)⟩
end
end Z
set_option Elab.async false
set_option linter.all false
set_option maxRecDepth 100000
set_option maxHeartbeats 4000000
set_option autoImplicit false
namespace Z
open PySem PySem.Spec PyProof.Rows L2
open Sem (wp)
open AutoSeq1 (wpAny_loadPart')
/-! ### sorted(t), t a tuple of ints -/
section
variable {prog : Program} {w : World} {A : Around} {E : Value → Shared → Prop} {s : Shared}
theorem sorted_tup {l : Addr} {vs : List Value} {ltv : Value → Value → Bool} {Q : Value → Shared → Prop} (O : SrtO.Swo ltv) (hl : s.heap.IsTuple l vs.toArray) (hz : vs.length ≤ sizeLine)
    (hS : 2 ≤ vs.length → ∀ (h₁ : Heap) (a : Addr), h₁.get? a = some (seqObj "list" vs.toArray 0) → (∀ b o, s.heap.get? b = some o → b ≠ a ∧ h₁.get? b = some o) → SrtO.SortableO prog w A.in1.in1 { s with heap := h₁ } a vs ltv)
    (h : ∀ (out : List Value) (h1 h' : Heap), SrtO.Srtd ltv out → SrtO.Stb ltv out vs → (∀ b o, s.heap.get? b = some o → h1.get? b = some o) → (∀ b o, h1.get? b = some o → h'.get? b = some o) → (∃ e, h'.get? h1.objs.size = some (seqObj "list" out.toArray e)) → Q (.ref h1.objs.size) { s with heap := h' }) :
    wpAny (model prog w) A (call (.builtin "sorted") [.ref l]) Q E s := by
  obtain ⟨o, ho, hc, n, hd⟩ := hl
  refine Calls.call_function_entry kind_sorted plain_sorted entry_sorted (args_sorted1 _) ?_
  unfold Builtin.«sorted»
  refine wpAny_bind (m := checkCount "sorted" 1 1 _) (wpAny_pure ?_)
  refine wpAny_bind (wpAny_collect_seq l (.inr rfl) ho hc hd (fun h1 hk => ?_) (by rw [List.size_toArray]; exact hz))
  have e : vs.toArray.toList = vs := by simp
  rw [e]
  refine wpAny_bind (wpAny_newList ?_ hz)
  have hoL : (h1.push (seqObj "list" vs.toArray 0)).get? h1.objs.size = some (seqObj "list" vs.toArray 0) := Heap.get?_push_size _ rfl
  have keep : ∀ b o, s.heap.get? b = some o → b ≠ h1.objs.size ∧ (h1.push (seqObj "list" vs.toArray 0)).get? b = some o := fun b o q =>
    ⟨Nat.ne_of_lt (Heap.lt_size (hk _ _ q)), Heap.get?_push_of_some _ (hk _ _ q)⟩
  show wpAny _ _ _ _ _ { s with heap := h1.push (seqObj "list" vs.toArray 0) }
  refine wpAny_bind (wpAny_holding (wpAny_call_entry slot_list_sort ⟨_, hoL, rfl⟩ entry_list_sort (SrtO.list_sort_ord O hoL hz (fun h2 => hS h2 _ _ hoL keep) fun out hs hb => ⟨_, rfl, ?_⟩) (args_list_sort _)))
  refine wpAny_pure ⟨_, rfl, h out h1 _ hs hb hk (fun b o hq => ?_) (sortedHeap_at (vs := vs) (out := out.toArray) hoL)⟩
  show (sortedHeap (h1.push (seqObj "list" vs.toArray 0)) h1.objs.size vs out.toArray).get? b = some o
  rw [sortedHeap_old (Nat.ne_of_lt (Heap.lt_size hq)) (by rw [Heap.size_push]; exact Nat.lt_succ_of_lt (Heap.lt_size hq))]
  exact Heap.get?_push_of_some _ hq
end
def rSortedIT (K : PySem.W.Frag) : List V → Hp → VK → Prop := fun vs H Q => ∃ (a : Addr) (ns : List Int), vs = [V.ref a] ∧ SqT K H a (ns.map V.int) ∧
  ∀ (ns' : List Int) (p : Addr), ns'.Perm ns → ns'.Pairwise (· ≤ ·) → H p = none → Q (.ref p) (upd H p (.lst (ns'.map V.int)))
theorem cr_sortedIT {X : Cx} : CallR X (.builtin "sorted") (rSortedIT X.K) := by
  intro pins s σ H vs us Q I r h
  obtain ⟨a, ns, rfl, hs, q⟩ := h
  obtain ⟨its, rv, hT, hz⟩ := I.tuple hs
  rw [Vals.ref1 r]
  have hi := rv.ints
  refine sorted_tup SrtO.swo_int hT (by rw [← rv.length]; exact hz) (fun h2 h₁ a' _ _ => SrtO.ints_sortable hi h2) fun out h1' h' h1 h2 hk1 hk2 hp => ?_
  have I1 : Inv X pins σ H { s with heap := h1' } := I.kept (t' := s.toks) hk1
  obtain ⟨k1, k2, k3⟩ := SrtO.ints_out hi h1 h2
  obtain ⟨ep, hp⟩ := hp
  have hlen : ((out.map SrtO.iv).map V.int).length ≤ sizeLine := by
    rw [List.length_map, k2.length_eq]
    rw [List.length_map] at hz
    exact hz
  exact ⟨.ref _, upd H h1'.objs.size (.lst ((out.map SrtO.iv).map V.int)), I1.laid (t' := s.toks) hk2 (Nat.le_refl _) ⟨hlen, out, ep, vals_of_ints k1, hp⟩, rfl, q _ _ k2 k3 (I1.hok.fresh (Nat.le_refl _))⟩
/-! ### enumerate(t), t a tuple -/
theorem meets_enum_tup (l : Addr) (items : Array Value) (n : Nat) (dct : Option Addr) (sl : Array (Option Value)) :
    Meets (Builtin.«enumerate.__new__» ⟨[.type "enumerate", .ref l], []⟩) (fun _ R s => s.heap.get? l = some { cls := .type "tuple", dict := dct, data := .seq items n, slots := sl } ∧
      R (.ok (.ret (.ref (s.heap.push { cls := .type "tuple_iterator", data := .fields #[.ref l, .int 0 0] }).objs.size)))
        { s with heap := (s.heap.push { cls := .type "tuple_iterator", data := .fields #[.ref l, .int 0 0] }).push { cls := .type "enumerate", data := .fields #[.none, .bool false, .ref s.heap.objs.size, rawInt 0, .none, .none] } }) :=
  .of_wp fun prog w A R s h => by
    obtain ⟨hp, g, d, tk, os⟩ := s; obtain ⟨hl, h⟩ := h
    have hsub := sub_enumerate
    have hL : Heap.IsTuple (Shared.heap ⟨hp, g, d, tk, os⟩) l items := ⟨_, hl, rfl, n, rfl⟩
    wp_walk using wpAny_loadPart' hl
    refine wpAny_stack_any fun st => wpAny_pure ?_
    split
    · rename_i c _ _ _ _ _
      cases (c == Value.type "enumerate")
      · wp_walk using wpAny_loadPart' hl, wpAny_pyIter_tuple hL
        exact ⟨_, rfl, h⟩
      · wp_walk using wpAny_loadPart' hl, wpAny_pyIter_tuple hL
        exact ⟨_, rfl, h⟩
    · wp_walk using wpAny_loadPart' hl, wpAny_pyIter_tuple hL
      exact ⟨_, rfl, h⟩
section
variable {prog : Program} {w : World} {A : Around} {E : Value → Shared → Prop} {s : Shared}
theorem call_enum_tup {l : Addr} {items : Array Value} {Q : Value → Shared → Prop} (hL : s.heap.IsTuple l items)
    (h : ∀ h', IsEnum h' (s.heap.objs.size + 1) s.heap.objs.size 0 .none → h'.IsTupleIter s.heap.objs.size l 0 → (∀ b o, s.heap.get? b = some o → h'.get? b = some o) → Q (.ref (s.heap.objs.size + 1)) { s with heap := h' }) :
    wpAny (model prog w) A (call (.type "enumerate") [.ref l]) Q E s := by
  obtain ⟨⟨c, dct, dt, sl⟩, hl, hc, n, hd⟩ := hL
  replace hc : c = .type "tuple" := hc
  replace hd : dt = .seq items n := hd
  subst hc hd
  refine callType_new F.called_enumerate (by decide) (F.typeCall_enumerate_1 _) (F.newCall_enumerate_1 _) (fun obj => F.args_object_init_2 obj _) F.entry_enumerate_new
    (meets_enum_tup l items n dct sl) ⟨hl, ?_⟩
  have hz : (s.heap.push { cls := .type "tuple_iterator", data := .fields #[.ref l, .int 0 0] }).objs.size = s.heap.objs.size + 1 := Heap.size_push ..
  show _ ∧ _
  rw [hz]
  have he : IsEnum ((s.heap.push { cls := .type "tuple_iterator", data := .fields #[.ref l, .int 0 0] }).push
      { cls := .type "enumerate", data := .fields #[.none, .bool false, .ref s.heap.objs.size, rawInt 0, .none, .none] }) (s.heap.objs.size + 1) s.heap.objs.size 0 .none := by
    have := Heap.get?_push_size (s.heap.push { cls := .type "tuple_iterator", data := .fields #[.ref l, .int 0 0] })
      (o := { cls := .type "enumerate", data := .fields #[.none, .bool false, .ref s.heap.objs.size, rawInt 0, .none, .none] }) rfl
    rw [hz] at this; exact this
  exact ⟨⟨_, he, rfl⟩, h _ he ⟨_, Heap.get?_push_of_some _ (Heap.get?_push_size _ rfl), rfl, rfl⟩ fun b o x => Heap.get?_push_of_some _ (Heap.get?_push_of_some _ x)⟩
end
/-- the tuple at a, each item in a new pair -/
def IteT (K : PySem.W.Frag) (a : Addr) : It :=
  ⟨fun i H => ∃ (xs : List V) (x : V), SqT K H a xs ∧ xs[i]? = some x, fun i H v H' => ∃ T x, v = .ref T ∧ H T = none ∧ H' = upd H T (.tup [.int (i : Nat), x]) ∧ ∀ xs, SqT K H a xs → xs[i]? = some x, fun i H => ∃ xs : List V, SqT K H a xs ∧ xs.length = i⟩
theorem tup_inj {X : Cx} {pins : List (Addr × Obj)} {s : Shared} {σ : L2.St} {H : Hp} (I : Inv X pins σ H s) {a : Addr} {xs ys : List V} (h : SqT X.K H a xs) (h' : SqT X.K H a ys) : xs = ys := I.tuple_inj h h'
theorem apart1 {h : Heap} {a it : Addr} {i : Nat} {xs : Array Value} (p : h.IsTuple a xs) (q : h.IsTupleIter it a i) : a ≠ it := fun z => by
  obtain ⟨o, ho, hc, _⟩ := p
  obtain ⟨o', ho', hc', _⟩ := q
  rw [z, ho'] at ho
  cases ho
  rw [hc'] at hc
  injection hc with hc
  exact absurd hc (by decide)
theorem apart2 {h : Heap} {a e it : Addr} {c : Int} {old : Value} {xs : Array Value} (q : IsEnum h e it c old) (p : h.IsTuple a xs) : e ≠ a := fun z => by
  obtain ⟨o, ho, hc, _⟩ := p
  have q : h.get? e = _ := q
  rw [z, ho] at q
  cases q
  injection hc with hc
  exact absurd hc (by decide)
theorem turn_enumT {P : Program} {w : World} {K : PySem.W.Frag} {elts : List Expr} {kk : Nat} {tpos : Pos} (a e it : Addr) :
    Turn P w K (.Tuple elts kk tpos) (IteT K a) [e, it] e (fun i h => (∃ old, IsEnum h e it ((i : Nat) : Int) old) ∧ h.IsTupleIter it a i ∧ e ≠ it) where
  mem := by simp
  obj := fun i h st b hb => by
    obtain ⟨⟨old, he⟩, ⟨o, ho, hc, hd⟩, _⟩ := st
    rcases List.mem_cons.mp hb with z | hb
    · exact z ▸ ⟨_, he, fun v q => nomatch q⟩
    · rcases List.mem_cons.mp hb with z | hb
      · exact z ▸ ⟨o, ho, fun v q => by rw [hd] at q; cases q⟩
      · cases hb
  keep := fun i h h' st k => let ⟨⟨old, he⟩, hi, hne⟩ := st; ⟨⟨old, k e (List.mem_cons_self ..) _ he⟩, hi.at fun o q => k it (List.mem_cons_of_mem _ (List.mem_cons_self ..)) o q, hne⟩
  item := by
    intro X hP hw hK hc i pins s σ H E I hf st hg
    subst hP hw hK
    obtain ⟨⟨old, he⟩, hit, hne⟩ := st
    obtain ⟨xs, x, hq, hx⟩ := hg
    obtain ⟨its, rv, p, hz⟩ := I.tuple hq
    obtain ⟨u, hu, ru⟩ := rv.get hx
    have hie : it ∈ [e, it] := List.mem_cons_of_mem _ (List.mem_cons_self ..)
    have hai : a ≠ it := apart1 p hit
    have hae : e ≠ a := apart2 he p
    have hel : e < s.heap.objs.size := Heap.lt_size he
    have hil : it < s.heap.objs.size := by obtain ⟨_, q, _⟩ := hit; exact Heap.lt_size q
    have hlt : i < its.toArray.size := by
      rw [List.size_toArray]
      exact (List.getElem?_eq_some_iff.mp hu).1
    refine wpAny_pyNext_enum_itemD (Draws.tuple (A := X.A.in1) (show X.A.in1.handled = none from I.ok.hd hc) it a hai its.toArray) he ⟨hit, p⟩ hlt hne (by
      intro z
      rcases List.mem_cons.mp z with z | z
      · exact hne z
      · rcases List.mem_cons.mp z with z | z
        · exact hae z
        · cases z) fun y h' tk hy ho hit' hT hsz hk => ?_
    obtain rfl : y = u := by
      have : its[i]? = some y := by simpa using hy
      rw [hu] at this
      exact (Option.some.inj this).symm
    refine ⟨_, rfl, wpAny_letOwnedTupleGo_enum (s := { s with heap := h', toks := tk + 1 }) ho fun h'' he' sb => ?_⟩
    have hT2 : h''.get? s.heap.objs.size = some { cls := .type "tuple", data := .seq #[.int i tk, y] } := (sb.2 _ (Nat.ne_of_gt hel)).trans hT
    have new : ObjOk X.prog X.w (upd H s.heap.objs.size (.tup [.int (i : Nat), x])) h'' s.heap.objs.size (.tup [.int (i : Nat), x]) :=
      ⟨by show 2 ≤ sizeLine; decide, [.int i tk, y], .cons ⟨_, rfl⟩ (.cons ru .nil), ⟨_, hT2, rfl, _, rfl⟩⟩
    have I1 : Inv X pins σ (upd H s.heap.objs.size (.tup [.int (i : Nat), x])) { s with heap := h'', toks := tk + 1 } :=
      I.turnedNew (ch := [e, it]) (fun b ob hb q => (sb.2 b (fun z => hb (by rw [z]; exact List.mem_cons_self ..))).trans (hk b ob (fun z => hb (by rw [z]; exact List.mem_cons_self ..)) (fun z => hb (by rw [z]; exact hie)) q)) hf (Nat.le_refl _) new
    refine ⟨.ref s.heap.objs.size, _, I1, rfl, ⟨_, x, rfl, I.hok.fresh (Nat.le_refl _), rfl, fun ys hy => by rw [I.tuple_inj hy hq]; exact hx⟩, ⟨⟨y, ?_⟩, hit'.1.at fun o q => (sb.2 it (Ne.symm hne)).trans q, hne⟩, fun b hb => ?_⟩
    · rw [show ((i + 1 : Nat) : Int) = (i : Int) + 1 by omega]
      exact he'
    · have hb' : b < s.heap.objs.size := by
        rcases List.mem_cons.mp hb with z | z
        · exact z ▸ hel
        · rcases List.mem_cons.mp z with z | z
          · exact z ▸ hil
          · cases z
      rw [upd_ne (Nat.ne_of_lt hb')]
      exact (hf b hb).1
  done := by
    intro X hP hw hK hc i pins s σ H E I hf st hg
    subst hP hw hK
    obtain ⟨⟨old, he⟩, hit, hne⟩ := st
    obtain ⟨xs, hq, hx⟩ := hg
    obtain ⟨its, rv, p, hz⟩ := I.tuple hq
    have hie : it ∈ [e, it] := List.mem_cons_of_mem _ (List.mem_cons_self ..)
    obtain ⟨f0, f1, f2, f3, f4, f5⟩ := hf it hie
    have hai : a ≠ it := apart1 p hit
    have hl := rv.length
    have hit : s.heap.IsTupleIter it a its.toArray.size := by
      rw [List.size_toArray, ← hl, hx]
      exact hit
    exact wpAny_pyNext_enum_endD (Draws.tuple (A := X.A.in1) (show X.A.in1.handled = none from I.ok.hd hc) it a hai its.toArray) he ⟨hit, p⟩ fun h' eb => ⟨rfl, I.turned (t' := s.toks) (fun b o hb q => eb b o hb q) f0 f1 f3 f4 f5⟩
  self := fun A i s Q E st h => let ⟨⟨_, he⟩, _⟩ := st; wpAny_pyIter_enum he h
def iEnumT (K : PySem.W.Frag) (ta : TA) : TI := fun σ H R => ta σ H fun vs H1 => ∃ a xs, vs = [.ref a] ∧ SqT K H1 a xs ∧ R (IteT K a) H1
theorem pi_enumT {X : Cx} {e : Expr} {ta : TA} {p pos tpos : Pos} {elts : List Expr} {kk : Nat} (hg : Gl X "enumerate") (hm : X.mg "enumerate" = none) (ha : PA X [e] ta) (hs : starEach [e] X.env = [(false, eval e X.env)] := by rfl) :
    PI X (.Tuple elts kk tpos) (.Call (.Name "enumerate" p) [e] [] pos) (iEnumT X.K ta) := by
  refine ⟨fun pins s σ H R I h => ?_⟩
  refine Call_ (ld_blt I hg hm boot_enumerate (PyProof.Rows.callWith_type1 (thn (ha.run pos pins s σ H _ I h) fun us s1 ⟨vs, H1, I1, r1, q1⟩ => ?_) hs rfl))
  obtain ⟨a, xs, rfl, hq, q⟩ := q1
  cases r1 with
  | cons r rr =>
    cases rr
    cases r
    obtain ⟨its, rv, p', hz⟩ := I1.tuple hq
    refine call_enum_tup p' fun h' he hit hk => wpAny_pyIter_enum he ?_
    have I2 : Inv X pins σ H1 { s1 with heap := h' } := I1.kept (t' := s1.toks) hk
    refine ⟨s1.heap.objs.size + 1, [s1.heap.objs.size + 1, s1.heap.objs.size], _, _, H1, rfl, I2, turn_enumT a (s1.heap.objs.size + 1) s1.heap.objs.size, ⟨⟨.none, he⟩, hit, Nat.succ_ne_self _⟩, fun b hb => ?_, q⟩
    have hle : s1.heap.objs.size ≤ b := by
      rcases List.mem_cons.mp hb with z | z
      · rw [z]; exact Nat.le_succ _
      · rcases List.mem_cons.mp z with z | z
        · rw [z]; exact Nat.le_refl _
        · cases z
    exact I1.fpOk hle (I1.hok.fresh hle)
end Z
set_option Elab.async false
set_option linter.all false
set_option maxRecDepth 100000
set_option maxHeartbeats 2000000
set_option autoImplicit false
namespace Z
open PySem L2
open Evl (Ex)
open Dat
/-! ### sorted lists by a code -/
def srtK {α : Type} (f : α → Int) (xs : List α) : List α := xs.mergeSort fun a b => decide (f a ≤ f b)
section
variable {α : Type} {f : α → Int} {xs ys : List α}
theorem srtK_perm : (srtK f xs).Perm xs := List.mergeSort_perm _ _
theorem srtK_pw : (srtK f xs).Pairwise fun a b => f a ≤ f b := by
  have h := List.pairwise_mergeSort (le := fun a b : α => decide (f a ≤ f b)) (fun a b c h1 h2 => by
    simp at h1 h2 ⊢
    omega) (fun a b => by
    simp
    omega) xs
  exact h.imp fun h => by simpa using h
theorem srtK_uniq (hp : ys.Perm xs) (hs : ys.Pairwise fun a b => f a ≤ f b) (inj : ∀ a b, a ∈ xs → b ∈ xs → f a = f b → a = b) : ys = srtK f xs :=
  List.Perm.eq_of_pairwise (le := fun a b => f a ≤ f b) (fun a b ha hb h1 h2 => inj a b (hp.mem_iff.mp ha) (srtK_perm.mem_iff.mp hb) (by omega)) hs srtK_pw (hp.trans srtK_perm.symm)
theorem srtK_mem {x : α} : x ∈ srtK f xs ↔ x ∈ xs := srtK_perm.mem_iff
theorem srtK_len : (srtK f xs).length = xs.length := srtK_perm.length_eq
/-- two sorted lists with no item twice and the same items -/
theorem srt_set (inj : ∀ a b, a ∈ xs → b ∈ xs → f a = f b → a = b) (h1 : xs.Pairwise fun a b => f a ≤ f b) (h2 : ys.Pairwise fun a b => f a ≤ f b) (n1 : xs.Nodup) (n2 : ys.Nodup) (hm : ∀ x, x ∈ xs ↔ x ∈ ys) : xs = ys :=
  List.Perm.eq_of_pairwise (le := fun a b => f a ≤ f b) (fun a b ha hb h1 h2 => inj a b ha ((hm b).mpr hb) (by omega)) h1 h2 ((List.perm_ext_iff_of_nodup n1 n2).mpr hm)
end
theorem code_inj {B : Int} : ∀ {xs ys : List Int}, xs.length = ys.length → TS.Bd B xs → TS.Bd B ys → TS.code B xs = TS.code B ys → xs = ys
  | [], [], _, _, _, _ => rfl
  | x :: xs, y :: ys, hl, hx, hy, h => by
    have hl' : xs.length = ys.length := Nat.succ.inj hl
    have bx : TS.Bd B xs := fun m hm => hx m (List.mem_cons_of_mem _ hm)
    have by' : TS.Bd B ys := fun m hm => hy m (List.mem_cons_of_mem _ hm)
    rcases Int.lt_trichotomy x y with c | c | c
    · have := TS.code_lt hl' bx by' c
      omega
    · subst c
      have e : TS.code B xs = TS.code B ys := by
        have a := @TS.code_same B x xs ys hl'
        have b := @TS.code_same B x ys xs hl'.symm
        rcases Int.lt_trichotomy (TS.code B xs) (TS.code B ys) with d | d | d
        · have := a.mpr d; omega
        · exact d
        · have := b.mpr d; omega
      rw [code_inj hl' bx by' e]
    · have := TS.code_lt hl'.symm by' bx c
      omega
section
variable {K : PySem.W.Frag} {α β : Type} [Dat α] [Dat β] {σ : L2.St} {G H H' : Hp} {te ta tb tu : TE} {tt : TT} {i j : Int}
theorem Reps.ints' {vs : List V} {xs : List Int} (r : Reps K H vs xs) : vs = xs.map V.int := Reps.ints r
/-- a list of values in another order stands for the data in that order -/
theorem Reps.perm {vs ws : List V} (p : ws.Perm vs) : ∀ {xs : List α}, Reps K H vs xs → ∃ ys, ys.Perm xs ∧ Reps K H ws ys := by
  induction p with
  | nil => exact fun {xs} r => ⟨xs, List.Perm.refl _, r⟩
  | cons v p ih =>
    intro xs r
    obtain ⟨x, xs', e, h1, h2⟩ : ∃ x xs', xs = x :: xs' ∧ Rep K H v x ∧ Reps K H _ xs' := by
      cases xs with
      | nil => cases Reps.len r
      | cons x xs' =>
        obtain ⟨_, _, e, h1, h2⟩ := Reps.inv r
        cases e
        exact ⟨x, xs', rfl, h1, h2⟩
    subst e
    obtain ⟨ys, hy, ry⟩ := ih h2
    exact ⟨x :: ys, hy.cons x, Reps.cons h1 ry⟩
  | swap u v ws =>
    intro xs r
    cases xs with
    | nil => cases Reps.len r
    | cons x xs =>
      cases xs with
      | nil => cases Nat.succ.inj (Reps.len r)
      | cons y xs =>
        obtain ⟨_, _, e, h1, h2⟩ := Reps.inv r
        cases e
        obtain ⟨_, _, e, h3, h4⟩ := Reps.inv h2
        cases e
        exact ⟨y :: x :: xs, List.Perm.swap x y xs, Reps.cons h3 (Reps.cons h1 h4)⟩
  | trans p q ih1 ih2 =>
    intro xs r
    obtain ⟨ys, hy, ry⟩ := ih2 r
    obtain ⟨zs, hz, rz⟩ := ih1 ry
    exact ⟨zs, hz.trans hy, rz⟩
theorem el_sortI {xs : List Int} (h : ER K te σ H xs) : EL K (tCB (rSortedI K) (tCons te tNil)) σ H (srtK (fun x : Int => x) xs) := fun H1 e Q q => h H1 e _ fun v H2 e2 r => by
  obtain ⟨a, vs, rfl, s, r⟩ := Rep.list r
  obtain rfl := Reps.ints r
  refine ⟨a, xs, rfl, s, fun ns p hp hs hn => ?_⟩
  obtain rfl : ns = srtK (fun x : Int => x) xs := srtK_uniq hp hs fun a b _ _ h => h
  exact q p _ (fresh_back e2 hn) (e2.trans (Evl.Ex.new hn)) ⟨_, upd_same, Reps.int_map _⟩
theorem el_sortIT {xs : Tp Int} (h : ER K te σ H xs) : EL K (tCB (rSortedIT K) (tCons te tNil)) σ H (srtK (fun x : Int => x) (show List Int from xs)) := fun H1 e Q q => h H1 e _ fun v H2 e2 r => by
  obtain ⟨a, vs, rfl, s, r⟩ := Rep.tup r
  obtain rfl := Reps.ints r
  refine ⟨a, xs, rfl, s, fun ns p hp hs hn => ?_⟩
  obtain rfl : ns = srtK (fun x : Int => x) (show List Int from xs) := srtK_uniq hp hs fun a b _ _ h => h
  exact q p _ (fresh_back e2 hn) (e2.trans (Evl.Ex.new hn)) ⟨_, upd_same, Reps.int_map _⟩
def codeT (B : Int) (t : Tp Int) : Int := TS.code B (show List Int from t)
/-- rows of d ints in [0, B) -/
def Rows (d : Nat) (B : Int) (xs : List (Tp Int)) : Prop := ∀ t : Tp Int, t ∈ xs → List.length t = d ∧ TS.Bd B (show List Int from t)
theorem Rows.inj {d : Nat} {B : Int} {xs : List (Tp Int)} (h : Rows d B xs) : ∀ a b : Tp Int, a ∈ xs → b ∈ xs → codeT B a = codeT B b → a = b := fun a b ha hb e =>
  code_inj ((h a ha).1.trans (h b hb).1.symm) (h a ha).2 (h b hb).2 e
theorem tupI_rep {v : V} {t : Tp Int} (r : Rep K H v t) : TupI K H v (show List Int from t) := by
  obtain ⟨a, vs, rfl, s, r⟩ := Rep.tup r
  obtain rfl := Reps.ints r
  exact ⟨a, rfl, s⟩
theorem el_sortU {d : Nat} {B : Int} {xs : List (Tp Int)} (h : ER K te σ H xs) (hl : xs.length < 64) (hr : Rows d B xs) : EL K (tCB (rSortU K d B) (tCons te tNil)) σ H (srtK (codeT B) xs) := fun H1 e Q q => h H1 e _ fun v H2 e2 r => by
  obtain ⟨a, vs, rfl, s, r⟩ := Rep.list r
  refine ⟨a, vs, rfl, s, by rw [r.len]; exact hl, fun v hv => ?_, fun ws p hp hs hn => ?_⟩
  · obtain ⟨k, hk⟩ := List.getElem?_of_mem hv
    obtain ⟨t, ht, rt⟩ := r.got hk
    have hm := hr t (List.mem_of_getElem? ht)
    exact ⟨_, tupI_rep rt, hm.1, hm.2⟩
  · obtain ⟨ys, hy, ry⟩ := Reps.perm hp r
    have e : ys = srtK (codeT B) xs := by
      refine srtK_uniq hy ?_ hr.inj
      rw [List.pairwise_iff_getElem] at hs ⊢
      intro i j hi hj hij
      have li := ry.len
      obtain ⟨v1, h1, r1⟩ := ry.get (List.getElem?_eq_getElem hi)
      obtain ⟨v2, h2, r2⟩ := ry.get (List.getElem?_eq_getElem hj)
      obtain ⟨_, e1⟩ := List.getElem?_eq_some_iff.mp h1
      obtain ⟨_, e2⟩ := List.getElem?_eq_some_iff.mp h2
      have := hs i j (by omega) (by omega) hij
      rw [e1, e2] at this
      exact this _ _ (tupI_rep r1) (tupI_rep r2)
    subst e
    exact q p _ (fresh_back e2 hn) (e2.trans (Evl.Ex.new hn)) ⟨ws, upd_same, by rw [cut_updn hn]; exact ry⟩
/-! ### any, all, min, max -/
theorem Reps.bls : ∀ {vs : List V} {xs : List Bool}, Reps K H vs xs → vs = xs.map V.bl
  | [], [], _ => rfl
  | v :: vs, [], r => by cases Reps.len r
  | [], x :: xs, r => by cases Reps.len r
  | v :: vs, x :: xs, r => by
    obtain ⟨_, _, e, h1, h2⟩ := Reps.inv r
    cases e
    rw [Rep.bool h1, Reps.bls h2]
    rfl
theorem er_all {bs : List Bool} (h : ER K te σ H bs) : ER K (tCB (rAll K) (tCons te tNil)) σ H (bs.all id) := fun H1 e Q q => h H1 e _ fun v H2 e2 r => by
  obtain ⟨a, vs, rfl, s, r⟩ := Rep.list r
  obtain rfl := Reps.bls r
  exact ⟨a, bs, rfl, s, q _ H2 e2 (rep_bool _)⟩
theorem er_any {bs : List Bool} (h : ER K te σ H bs) : ER K (tCB (rAny K) (tCons te tNil)) σ H (bs.any id) := fun H1 e Q q => h H1 e _ fun v H2 e2 r => by
  obtain ⟨a, vs, rfl, s, r⟩ := Rep.list r
  obtain rfl := Reps.bls r
  exact ⟨a, bs, rfl, s, q _ H2 e2 (rep_bool _)⟩
theorem er_min2 (ha : ER K ta σ H i) (hb : ER K tb σ H j) : ER K (tCB (fun xs H Q => ∃ i j, xs = [.int i, .int j] ∧ Q (.int (if j < i then j else i)) H) (tCons ta (tCons tb tNil))) σ H (min i j) := fun H1 e Q q =>
  ha.evI H1 e _ fun H2 e2 => hb.evI H2 (e.trans e2) _ fun H3 e3 => ⟨i, j, rfl, by
    have : (if j < i then j else i) = min i j := by
      split <;> omega
    rw [this]
    exact q _ H3 (e2.trans e3) (rep_int _)⟩
theorem er_max2 (ha : ER K ta σ H i) (hb : ER K tb σ H j) : ER K (tCB (fun xs H Q => ∃ i j, xs = [.int i, .int j] ∧ Q (.int (if j > i then j else i)) H) (tCons ta (tCons tb tNil))) σ H (max i j) := fun H1 e Q q =>
  ha.evI H1 e _ fun H2 e2 => hb.evI H2 (e.trans e2) _ fun H3 e3 => ⟨i, j, rfl, by
    have : (if j > i then j else i) = max i j := by
      split <;> omega
    rw [this]
    exact q _ H3 (e2.trans e3) (rep_int _)⟩
/-! ### x in xs, of data -/
theorem any_mem {x : α} {xs : List α} [DecidableEq α] [DatEq α] : ((xs.map enc).any fun z => PyData.eqv z (enc x)) = decide (x ∈ xs) := by
  induction xs with
  | nil => rfl
  | cons y ys ih =>
    rw [List.map_cons, List.any_cons, ih, DatEq.eqv]
    by_cases h : y = x
    · subst h
      simp
    · have h' : ¬ x = y := fun z => h z.symm
      simp [h, h']
theorem er_inD {x : α} {xs : List α} [DecidableEq α] [DatEq α] {n : Nat} [Deep α n] (ha : ER K ta σ H x) (hb : ER K tb σ H xs) (hn : n < 64 := by decide) : ER K (tOp (rInD K) ta tb) σ H (decide (x ∈ xs)) := fun H1 e Q q =>
  ha H1 e _ fun v H2 e2 r2 => hb H2 (e.trans e2) _ fun w H3 e3 r3 => ⟨enc x, xs.map enc, dq_dp _ _ (DatEq.lay _) (r2.mono e3), dq_dp _ _ (DatEq.lay xs) r3, by
      unfold SeqAt.shaped; rw [DatEq.lay]; exact decide_eq_true (Nat.le_trans (Deep.dep x) (Nat.le_of_lt hn)), by
      show SeqAt.shaped (enc xs) = true
      unfold SeqAt.shaped
      rw [DatEq.lay]
      exact decide_eq_true (Nat.le_trans (Deep.dep (n := n + 1) xs) hn), by rw [any_mem]; exact q _ H3 (e2.trans e3) (rep_bool _)⟩
theorem er_notInD {x : α} {xs : List α} [DecidableEq α] [DatEq α] {n : Nat} [Deep α n] (ha : ER K ta σ H x) (hb : ER K tb σ H xs) (hn : n < 64 := by decide) : ER K (tOp (rNotInD K) ta tb) σ H (!decide (x ∈ xs)) := fun H1 e Q q =>
  ha H1 e _ fun v H2 e2 r2 => hb H2 (e.trans e2) _ fun w H3 e3 r3 => ⟨enc x, xs.map enc, dq_dp _ _ (DatEq.lay _) (r2.mono e3), dq_dp _ _ (DatEq.lay xs) r3, by
      unfold SeqAt.shaped; rw [DatEq.lay]; exact decide_eq_true (Nat.le_trans (Deep.dep x) (Nat.le_of_lt hn)), by
      show SeqAt.shaped (enc xs) = true
      unfold SeqAt.shaped
      rw [DatEq.lay]
      exact decide_eq_true (Nat.le_trans (Deep.dep (n := n + 1) xs) hn), by rw [any_mem]; exact q _ H3 (e2.trans e3) (rep_bool _)⟩
/-- x in xs of flat things: ints -/
theorem flat_ints (xs : List Int) : (xs.map V.int).all flatV = true := by
  induction xs with
  | nil => rfl
  | cons x xs ih => rw [List.map_cons, List.all_cons, ih]; rfl
theorem inV_ints (x : Int) (xs : List Int) : inV (.int x) (xs.map V.int) = decide (x ∈ xs) := by
  induction xs with
  | nil => rfl
  | cons y ys ih =>
    unfold inV at ih ⊢
    rw [List.map_cons, List.any_cons, ih]
    show ((y == x) || _) = _
    by_cases h : y = x
    · subst h
      simp
    · have h' : ¬ x = y := fun z => h z.symm
      simp [h, h']
theorem er_inI {x : Int} {xs : List Int} (ha : ER K ta σ H x) (hb : ER K tb σ H xs) : ER K (tOp (rIn K false) ta tb) σ H (decide (x ∈ xs)) := fun H1 e Q q => ha.evI H1 e _ fun H2 e2 => hb H2 (e.trans e2) _ fun w H3 e3 r => by
  obtain ⟨p, vs, rfl, s, r⟩ := Rep.list r
  obtain rfl := Reps.ints r
  refine ⟨p, _, rfl, .inl s, rfl, flat_ints xs, ?_⟩
  show Q (.bl (inV _ _)) H3
  rw [inV_ints]
  exact q _ H3 (e2.trans e3) (rep_bool _)
theorem er_notInI {x : Int} {xs : List Int} (ha : ER K ta σ H x) (hb : ER K tb σ H xs) : ER K (tOp (rIn K true) ta tb) σ H (!decide (x ∈ xs)) := fun H1 e Q q => ha.evI H1 e _ fun H2 e2 => hb H2 (e.trans e2) _ fun w H3 e3 r => by
  obtain ⟨p, vs, rfl, s, r⟩ := Rep.list r
  obtain rfl := Reps.ints r
  refine ⟨p, _, rfl, .inl s, rfl, flat_ints xs, ?_⟩
  show Q (.bl (!inV _ _)) H3
  rw [inV_ints]
  exact q _ H3 (e2.trans e3) (rep_bool _)
/-! ### list(range(n)) -/
theorem el_listRg {n : Int} (h : ER K te σ H n) (h0 : n ≤ 100000) (h1 : -100000 ≤ n) : EL K (tLstRg (tRg1 te)) σ H ((List.range n.toNat).map fun (k : Nat) => (k : Int)) := fun H1 e Q q =>
  h.evI H1 e _ fun H2 e2 => ⟨n, rfl, ⟨by omega, by omega, by omega, by omega, by omega⟩, fun p hp => q p _ (fresh_back e2 hp) (e2.trans (Evl.Ex.new hp)) ⟨_, upd_same, by
    rw [cut_updn hp]
    have e : rgV 0 n = ((List.range n.toNat).map fun (k : Nat) => (k : Int)).map V.int := by
      unfold rgV
      rw [List.map_map, Int.sub_zero]
      exact List.map_congr_left fun k _ => by
        show V.int (0 + (k : Int)) = V.int (k : Int)
        rw [Int.zero_add]
    rw [e]
    exact Reps.int_map _⟩⟩
/-! ### a, b = t -/
theorem g_pair {t : Tp Int} {v : V} {a b : Int} {m n : Nat} {Q : L2.St → Hp → Prop} (r : Rep K H v t) (ht : (show List Int from t) = [a, b]) (q : Q ((σ.set m (some (.int a))).set n (some (.int b))) H) : gTup K 2 (gCons (gName m) (gCons (gName n) gNil)) v σ H Q := by
  obtain ⟨p, vs, rfl, s, r⟩ := Rep.tup r
  obtain rfl := Reps.ints r
  have e : List.map V.int (show List Int from t) = [.int a, .int b] := by rw [ht]; rfl
  exact ⟨p, _, rfl, s, by show (List.map V.int (show List Int from t)).length = 2; rw [e]; rfl, _, _, e, _, _, rfl, rfl, q⟩
/-! ### for i, x in enumerate(t), t a tuple -/
theorem s_enumT {xs : Tp α} {m n : Nat} {tb : TS} {D : Ends} (h : ER K te σ H xs) (k : ∀ a vs H1, Ex H H1 → SqT K H1 a vs → Reps K H1 vs (α := α) xs → ∃ (G : Hp) (J : Nat → L2.St → Hp → Prop), Ex G H1 ∧ SqT K G a vs ∧ Reps K G vs (α := α) xs ∧ J 0 σ H1 ∧
      (∀ i x w σ' H' H'', (show List α from xs)[i]? = some x → Ex G H' → Ex H' H'' → Rep K G w x → J i σ' H' → tb { D with nx := fun σ3 H3 => Ex G H3 ∧ J (i + 1) σ3 H3, ct := fun σ3 H3 => Ex G H3 ∧ J (i + 1) σ3 H3, bk := D.nx } ((σ'.set m (some (.int (i : Nat)))).set n (some w)) H'') ∧
      (∀ σ' H', Ex G H' → J (List.length xs) σ' H' → D.nx σ' H')) : tFor (iEnumT K (tCons te tNil)) (gTup K 2 (gCons (gName m) (gCons (gName n) gNil))) tb D σ H := h H (Ex.refl H) _ fun v H1 e1 r => by
  obtain ⟨a, vs, rfl, s, r⟩ := Rep.tup r
  obtain ⟨G, J, eG, sG, rG, j0, js, jd⟩ := k a vs H1 e1 s r
  have hl := rG.len
  refine ⟨a, vs, rfl, s, fun i k' σ' H' => k' = List.length xs - i ∧ i ≤ List.length xs ∧ Ex G H' ∧ J i σ' H', ⟨_, rfl, Nat.zero_le _, eG, j0⟩, ?_⟩
  rintro i k' σ' H' ⟨rfl, hi, eH, j⟩
  have q := Evl.ex_t eH sG
  by_cases hlt : i < List.length xs
  · refine .inr ⟨⟨vs, vs[i]'(by omega), q, by simp [hl, hlt]⟩, fun σ3 H3 => Ex G H3 ∧ J (i + 1) σ3 H3, fun σ3 H3 z => ⟨_, by omega, rfl, hlt, z.1, z.2⟩, ?_⟩
    rintro y H2 ⟨T, x, rfl, hT, rfl, hx⟩
    obtain ⟨z, hz, rz⟩ := rG.got (hx vs q)
    have eT : Ex H' (upd H' T (.tup [.int (i : Nat), x])) := Evl.Ex.new hT
    exact ⟨T, _, rfl, SqT.of upd_same, rfl, _, _, rfl, _, _, rfl, rfl, js i z x σ' H' _ hz eH eT rz j⟩
  · have e : i = List.length xs := by omega
    subst e
    exact .inl ⟨⟨vs, q, by omega⟩, jd σ' H' eH j⟩
theorem q_enumT {xs : Tp α} {m n : Nat} {tb u : TS} {D : Ends} (h : ER K te σ H xs) (k : ∀ a vs H1, Ex H H1 → SqT K H1 a vs → Reps K H1 vs (α := α) xs → ∃ (G : Hp) (J : Nat → L2.St → Hp → Prop), Ex G H1 ∧ SqT K G a vs ∧ Reps K G vs (α := α) xs ∧ J 0 σ H1 ∧
      (∀ i x w σ' H' H'', (show List α from xs)[i]? = some x → Ex G H' → Ex H' H'' → Rep K G w x → J i σ' H' → tb { D with nx := fun σ3 H3 => Ex G H3 ∧ J (i + 1) σ3 H3, ct := fun σ3 H3 => Ex G H3 ∧ J (i + 1) σ3 H3, bk := u D } ((σ'.set m (some (.int (i : Nat)))).set n (some w)) H'') ∧
      (∀ σ' H', Ex G H' → J (List.length xs) σ' H' → u D σ' H')) : tSeq (tFor (iEnumT K (tCons te tNil)) (gTup K 2 (gCons (gName m) (gCons (gName n) gNil))) tb) u D σ H := s_enumT (D := { D with nx := u D }) h k
theorem s_enumTV {xs : Tp α} {m n c : Nat} {v : V} {tb : TS} {D : Ends} (hσ : σ[c]? = some (some v)) (r : Rep K G v xs) (e : Ex G H) (J : Nat → L2.St → Hp → Prop) (j0 : J 0 σ H)
    (js : ∀ i x w σ' H' H'', (show List α from xs)[i]? = some x → Ex G H' → Ex H' H'' → Rep K G w x → J i σ' H' → tb { D with nx := fun σ3 H3 => Ex G H3 ∧ J (i + 1) σ3 H3, ct := fun σ3 H3 => Ex G H3 ∧ J (i + 1) σ3 H3, bk := D.nx } ((σ'.set m (some (.int (i : Nat)))).set n (some w)) H'')
    (jd : ∀ σ' H', Ex G H' → J (List.length xs) σ' H' → D.nx σ' H') : tFor (iEnumT K (tCons (tVar c) tNil)) (gTup K 2 (gCons (gName m) (gCons (gName n) gNil))) tb D σ H := by
  obtain ⟨a, vs, rfl, s, rG⟩ := Rep.tup r
  have hl := rG.len
  refine ⟨_, hσ, a, vs, rfl, Evl.ex_t e s, fun i k' σ' H' => k' = List.length xs - i ∧ i ≤ List.length xs ∧ Ex G H' ∧ J i σ' H', ⟨_, rfl, Nat.zero_le _, e, j0⟩, ?_⟩
  rintro i k' σ' H' ⟨rfl, hi, eH, j⟩
  have q := Evl.ex_t eH s
  by_cases hlt : i < List.length xs
  · refine .inr ⟨⟨vs, vs[i]'(by omega), q, by simp [hl, hlt]⟩, fun σ3 H3 => Ex G H3 ∧ J (i + 1) σ3 H3, fun σ3 H3 z => ⟨_, by omega, rfl, hlt, z.1, z.2⟩, ?_⟩
    rintro y H2 ⟨T, x, rfl, hT, rfl, hx⟩
    obtain ⟨z, hz, rz⟩ := rG.got (hx vs q)
    have eT : Ex H' (upd H' T (.tup [.int (i : Nat), x])) := Evl.Ex.new hT
    exact ⟨T, _, rfl, SqT.of upd_same, rfl, _, _, rfl, _, _, rfl, rfl, js i z x σ' H' _ hz eH eT rz j⟩
  · have e : i = List.length xs := by omega
    subst e
    exact .inl ⟨⟨vs, q, by omega⟩, jd σ' H' eH j⟩
theorem q_enumTV {xs : Tp α} {m n c : Nat} {v : V} {tb u : TS} {D : Ends} (hσ : σ[c]? = some (some v)) (r : Rep K G v xs) (e : Ex G H) (J : Nat → L2.St → Hp → Prop) (j0 : J 0 σ H)
    (js : ∀ i x w σ' H' H'', (show List α from xs)[i]? = some x → Ex G H' → Ex H' H'' → Rep K G w x → J i σ' H' → tb { D with nx := fun σ3 H3 => Ex G H3 ∧ J (i + 1) σ3 H3, ct := fun σ3 H3 => Ex G H3 ∧ J (i + 1) σ3 H3, bk := u D } ((σ'.set m (some (.int (i : Nat)))).set n (some w)) H'')
    (jd : ∀ σ' H', Ex G H' → J (List.length xs) σ' H' → u D σ' H') : tSeq (tFor (iEnumT K (tCons (tVar c) tNil)) (gTup K 2 (gCons (gName m) (gCons (gName n) gNil))) tb) u D σ H := s_enumTV (D := { D with nx := u D }) hσ r e J j0 js jd
theorem er_neB {x y : Bool} (ha : ER K ta σ H x) (hb : ER K tb σ H y) : ER K (tOp rNe ta tb) σ H (!decide (x = y)) := fun H1 e Q q =>
  ha.evB H1 e _ fun H2 e2 => hb.evB H2 (e.trans e2) _ fun H3 e3 => ⟨rfl, by
    have : decide (V.bl x = V.bl y) = decide (x = y) := by simp
    rw [this]; exact q _ H3 (e2.trans e3) (rep_bool _)⟩
theorem cut_take {α : Type} {xs : List α} {k : Nat} (h : k ≤ xs.length) : cutD xs none (some (k : Int)) = xs.take k := by
  unfold cutD
  rw [HT.sIx_none, HT.sIx_nat, List.drop_zero, Nat.sub_zero]
  congr 1
  omega
theorem cut_drop {α : Type} {xs : List α} {k : Nat} (h : k ≤ xs.length) : cutD xs (some (k : Int)) none = xs.drop k := by
  unfold cutD
  rw [HT.sIx_none, HT.sIx_nat, Nat.min_eq_left h]
  exact List.take_of_length_le (by rw [List.length_drop]; omega)
/-- a for over a new list -/
theorem s_forL {xs : List α} {g : TG} {tb : TS} {D : Ends} (h : EL K te σ H xs) (k : ∀ p H1, H p = none → Ex H H1 → Own K H1 p xs → ∃ (G : Hp) (J : Nat → L2.St → Hp → Prop), Ex G H1 ∧ Own K G p xs ∧ J 0 σ H1 ∧
      (∀ i x v σ' H', xs[i]? = some x → Ex G H' → Rep K G v x → J i σ' H' → g v σ' H' fun σ2 H2 => tb { D with nx := fun σ3 H3 => Ex G H3 ∧ J (i + 1) σ3 H3, ct := fun σ3 H3 => Ex G H3 ∧ J (i + 1) σ3 H3, bk := D.nx } σ2 H2) ∧
      (∀ σ' H', Ex G H' → J xs.length σ' H' → D.nx σ' H')) : tFor (iList K te) g tb D σ H := h H (Ex.refl H) _ fun p H1 hp e1 o => by
  obtain ⟨G, J, eG, oG, j0, js, jd⟩ := k p H1 hp e1 o
  obtain ⟨vs, h1, r1⟩ := oG.ex
  have sG : SqL K G p vs := SqL.of h1
  have rG : Reps K G vs xs := r1.mono cut_ex
  refine ⟨p, rfl, ⟨vs, Evl.ex_l eG sG⟩, for_list (K := K) (a := p) (xs := vs) (fun i σ' H' => Ex G H' ∧ J i σ' H') ⟨eG, j0⟩ (fun i σ' H' _ z => Evl.ex_l z.1 sG) (fun i v σ' H' hi z => ?_) (fun σ' H' z => ?_)⟩
  · obtain ⟨x, hx, rx⟩ := rG.got hi
    exact js i x v σ' H' hx z.1 rx z.2
  · rw [rG.len] at z
    exact jd σ' H' z.1 z.2
theorem q_forL {xs : List α} {g : TG} {tb u : TS} {D : Ends} (h : EL K te σ H xs) (k : ∀ p H1, H p = none → Ex H H1 → Own K H1 p xs → ∃ (G : Hp) (J : Nat → L2.St → Hp → Prop), Ex G H1 ∧ Own K G p xs ∧ J 0 σ H1 ∧
      (∀ i x v σ' H', xs[i]? = some x → Ex G H' → Rep K G v x → J i σ' H' → g v σ' H' fun σ2 H2 => tb { D with nx := fun σ3 H3 => Ex G H3 ∧ J (i + 1) σ3 H3, ct := fun σ3 H3 => Ex G H3 ∧ J (i + 1) σ3 H3, bk := u D } σ2 H2) ∧
      (∀ σ' H', Ex G H' → J xs.length σ' H' → u D σ' H')) : tSeq (tFor (iList K te) g tb) u D σ H := s_forL (D := { D with nx := u D }) h k
/-- for i, TARGET in enumerate(xs), xs a name -/
theorem s_enumGV {xs : List α} {m c : Nat} {v : V} {g : TG} {tb : TS} {D : Ends} (hσ : σ[c]? = some (some v)) (r : Rep K G v xs) (e : Ex G H) (J : Nat → L2.St → Hp → Prop) (j0 : J 0 σ H)
    (js : ∀ i x w σ' H' H'', xs[i]? = some x → Ex G H' → Ex H' H'' → Rep K G w x → J i σ' H' → g w (σ'.set m (some (.int (i : Nat)))) H'' fun σ2 H2 => ([] : List V) = [] ∧ tb { D with nx := fun σ3 H3 => Ex G H3 ∧ J (i + 1) σ3 H3, ct := fun σ3 H3 => Ex G H3 ∧ J (i + 1) σ3 H3, bk := D.nx } σ2 H2)
    (jd : ∀ σ' H', Ex G H' → J xs.length σ' H' → D.nx σ' H') : tFor (iEnum K (tCons (tVar c) tNil)) (gTup K 2 (gCons (gName m) (gCons g gNil))) tb D σ H := by
  obtain ⟨a, vs, rfl, s, rG⟩ := Rep.list r
  have hl := rG.len
  refine ⟨_, hσ, a, vs, rfl, Evl.ex_l e s, fun i k' σ' H' => k' = xs.length - i ∧ i ≤ xs.length ∧ Ex G H' ∧ J i σ' H', ⟨_, rfl, Nat.zero_le _, e, j0⟩, ?_⟩
  rintro i k' σ' H' ⟨rfl, hi, eH, j⟩
  have q := Evl.ex_l eH s
  by_cases hlt : i < xs.length
  · refine .inr ⟨⟨vs, vs[i]'(by omega), q, by simp [hl, hlt]⟩, fun σ3 H3 => Ex G H3 ∧ J (i + 1) σ3 H3, fun σ3 H3 z => ⟨_, by omega, rfl, hlt, z.1, z.2⟩, ?_⟩
    rintro y H2 ⟨T, x, rfl, hT, rfl, hx⟩
    obtain ⟨z, hz, rz⟩ := rG.got (hx vs q)
    have eT : Ex H' (upd H' T (.tup [.int (i : Nat), x])) := Evl.Ex.new hT
    exact ⟨T, _, rfl, SqT.of upd_same, rfl, _, _, rfl, _, _, rfl, js i z x σ' H' _ hz eH eT rz j⟩
  · have e : i = xs.length := by omega
    subst e
    exact .inl ⟨⟨vs, q, by omega⟩, jd σ' H' eH j⟩
theorem q_enumGV {xs : List α} {m c : Nat} {v : V} {g : TG} {tb u : TS} {D : Ends} (hσ : σ[c]? = some (some v)) (r : Rep K G v xs) (e : Ex G H) (J : Nat → L2.St → Hp → Prop) (j0 : J 0 σ H)
    (js : ∀ i x w σ' H' H'', xs[i]? = some x → Ex G H' → Ex H' H'' → Rep K G w x → J i σ' H' → g w (σ'.set m (some (.int (i : Nat)))) H'' fun σ2 H2 => ([] : List V) = [] ∧ tb { D with nx := fun σ3 H3 => Ex G H3 ∧ J (i + 1) σ3 H3, ct := fun σ3 H3 => Ex G H3 ∧ J (i + 1) σ3 H3, bk := u D } σ2 H2)
    (jd : ∀ σ' H', Ex G H' → J xs.length σ' H' → u D σ' H') : tSeq (tFor (iEnum K (tCons (tVar c) tNil)) (gTup K 2 (gCons (gName m) (gCons g gNil))) tb) u D σ H := s_enumGV (D := { D with nx := u D }) hσ r e J j0 js jd
end
end Z
set_option Elab.async false
set_option linter.all false
set_option maxRecDepth 100000
set_option maxHeartbeats 2000000
set_option autoImplicit false
namespace Z
open PySem L2
open Evl (Ex)
open Dat
/-! ### sorted(set(xs)) -/
def ddStep {α : Type} [DecidableEq α] (acc : List α) (x : α) : List α := if x ∈ acc then acc else acc ++ [x]
/-- each item once, in the order of its first time -/
def dd {α : Type} [DecidableEq α] (xs : List α) : List α := xs.foldl ddStep []
section
variable {α : Type} [DecidableEq α]
theorem dd_go (xs acc : List α) (f : α → Int) (h1 : acc.Nodup) (h2 : acc.Pairwise fun a b => f a ≤ f b) (h3 : xs.Pairwise fun a b => f a ≤ f b) (h4 : ∀ a b, a ∈ acc → b ∈ xs → f a ≤ f b) :
    (xs.foldl ddStep acc).Nodup ∧ (xs.foldl ddStep acc).Pairwise (fun a b => f a ≤ f b) ∧ ∀ x, x ∈ xs.foldl ddStep acc ↔ x ∈ acc ∨ x ∈ xs := by
  induction xs generalizing acc with
  | nil => exact ⟨h1, h2, fun x => by simp⟩
  | cons y ys ih =>
    rw [List.foldl_cons]
    have h3' := (List.pairwise_cons.mp h3)
    by_cases hy : y ∈ acc
    · have e : ddStep acc y = acc := if_pos hy
      rw [e]
      obtain ⟨a1, a2, a3⟩ := ih acc h1 h2 h3'.2 fun a b ha hb => h4 a b ha (List.mem_cons_of_mem _ hb)
      refine ⟨a1, a2, fun x => (a3 x).trans ?_⟩
      constructor
      · rintro (h | h)
        · exact .inl h
        · exact .inr (List.mem_cons_of_mem _ h)
      · rintro (h | h)
        · exact .inl h
        · rcases List.mem_cons.mp h with rfl | h
          · exact .inl hy
          · exact .inr h
    · have e : ddStep acc y = acc ++ [y] := if_neg hy
      rw [e]
      obtain ⟨a1, a2, a3⟩ := ih (acc ++ [y]) (List.nodup_append.mpr ⟨h1, by simp, fun a ha b hb => by
          have := List.mem_singleton.mp hb
          subst this
          intro z
          exact hy (z ▸ ha)⟩) (List.pairwise_append.mpr ⟨h2, by simp, fun a ha b hb => by
          have := List.mem_singleton.mp hb
          subst this
          exact h4 a b ha (List.mem_cons_self ..)⟩) h3'.2 fun a b ha hb => by
        rcases List.mem_append.mp ha with ha | ha
        · exact h4 a b ha (List.mem_cons_of_mem _ hb)
        · have := List.mem_singleton.mp ha
          subst this
          exact h3'.1 b hb
      refine ⟨a1, a2, fun x => (a3 x).trans ?_⟩
      rw [List.mem_append, List.mem_singleton, List.mem_cons, or_assoc]
theorem dd_all (xs : List α) (f : α → Int) (h : xs.Pairwise fun a b => f a ≤ f b) : (dd xs).Nodup ∧ (dd xs).Pairwise (fun a b => f a ≤ f b) ∧ ∀ x, x ∈ dd xs ↔ x ∈ xs := by
  obtain ⟨a1, a2, a3⟩ := dd_go xs [] f (by simp) (by simp) h (fun a b ha => by cases ha)
  exact ⟨a1, a2, fun x => (a3 x).trans (by simp)⟩
end
def sset (B : Int) (xs : List (Tp Int)) : List (Tp Int) := dd (srtK (codeT B) xs)
theorem dd_len {α : Type} [DecidableEq α] (xs acc : List α) : (xs.foldl ddStep acc).length ≤ acc.length + xs.length := by
  induction xs generalizing acc with
  | nil => exact Nat.le_refl _
  | cons y ys ih =>
    have h := ih (ddStep acc y)
    have h2 : (ddStep acc y).length ≤ acc.length + 1 := by
      unfold ddStep
      split
      · exact Nat.le_succ _
      · rw [List.length_append]
        exact Nat.le_refl _
    rw [List.foldl_cons, List.length_cons]
    omega
theorem sset_len {B : Int} {xs : List (Tp Int)} : (sset B xs).length ≤ xs.length := by
  have h := dd_len (srtK (codeT B) xs) []
  rw [srtK_len] at h
  exact Nat.le_trans h (by simp)
theorem sset_mem {B : Int} {xs : List (Tp Int)} {t : Tp Int} : t ∈ sset B xs ↔ t ∈ xs := ((dd_all _ (codeT B) srtK_pw).2.2 t).trans srtK_mem
section
variable {K : PySem.W.Frag} {P : Program} {w : World} {σ : L2.St} {G H H' : Hp} {te : TE}
theorem reps_keys : ∀ {vs : List V} {xs : List (Tp Int)}, Reps K H vs xs → ∃ ks : List (Addr × List Int), vs = ks.map (fun p => V.ref p.1) ∧ xs = ks.map (fun p => (show Tp Int from p.2)) ∧ ∀ p ∈ ks, H p.1 = some (.tup (p.2.map V.int))
  | [], [], _ => ⟨[], rfl, rfl, fun p hp => by cases hp⟩
  | v :: vs, [], r => by cases Reps.len r
  | [], x :: xs, r => by cases Reps.len r
  | v :: vs, x :: xs, r => by
    obtain ⟨_, _, e, h1, h2⟩ := Reps.inv r
    cases e
    obtain ⟨ks, e1, e2, e3⟩ := reps_keys h2
    obtain ⟨t, vt, rfl, s, rt⟩ := Rep.tupP h1
    obtain rfl := Reps.ints rt
    refine ⟨(t, (show List Int from x)) :: ks, by rw [e1]; rfl, by rw [e2]; rfl, fun p hp => ?_⟩
    rcases List.mem_cons.mp hp with rfl | hp
    · exact s
    · exact e3 p hp
theorem keys_reps : ∀ {ks : List (Addr × List Int)}, (∀ p ∈ ks, H p.1 = some (.tup (p.2.map V.int))) → Reps K H (ks.map fun p => V.ref p.1) (ks.map fun p => (show Tp Int from p.2))
  | [], _ => reps_nil
  | p :: ks, h => Reps.cons (rep_tup (h p (List.mem_cons_self ..)) (Reps.int_map _)) (keys_reps fun q hq => h q (List.mem_cons_of_mem _ hq))
theorem el_sset {d : Nat} {B : Int} {xs : List (Tp Int)} (h : ER K te σ H xs) (hl : xs.length < 64) (hd : 1 ≤ d) (hr : Rows d B xs) : EL K (tCB (rSortedT K P w) (tCons (tCB (rSetOfT K P w) (tCons te tNil)) tNil)) σ H (sset B xs) := fun H1 e Q q => h H1 e _ fun v H2 e2 r => by
  obtain ⟨a, vs, rfl, s, r⟩ := Rep.list r
  obtain ⟨ks, rfl, rfl, hk⟩ := reps_keys r
  refine ⟨a, ks, rfl, s, fun p hp => SqT.of (hk p hp), by rw [List.length_map] at hl; exact hl, fun b L hb h1 h2 => ?_⟩
  have e3 : Ex H2 (upd H2 b (SetTO P w b L)) := Evl.Ex.new hb
  have hL : ∀ p ∈ L, (upd H2 b (SetTO P w b L)) p.1 = some (.tup (p.2.map V.int)) := fun p hp => e3 _ _ (hk p (h1 p hp))
  refine ⟨b, L, d, B, rfl, upd_same, fun p hp => SqT.of (hL p hp), hd, fun p hp => hr _ (List.mem_map.mpr ⟨p, h1 p hp, rfl⟩), fun L' p hp hn hc hs hpn => ?_⟩
  have e : L'.map (fun p => (show Tp Int from p.2)) = sset B (ks.map fun p => (show Tp Int from p.2)) := by
    have hm : ∀ t : Tp Int, t ∈ L'.map (fun p => (show Tp Int from p.2)) ↔ t ∈ ks.map (fun p => (show Tp Int from p.2)) := fun t => by
      constructor
      · intro ht
        obtain ⟨z, hz, rfl⟩ := List.mem_map.mp ht
        exact List.mem_map.mpr ⟨z, h1 z (hp.mem_iff.mp hz), rfl⟩
      · intro ht
        obtain ⟨z, hz, rfl⟩ := List.mem_map.mp ht
        obtain ⟨z', hz', e⟩ := List.mem_map.mp (h2 z hz)
        exact List.mem_map.mpr ⟨z', hp.mem_iff.mpr hz', e⟩
    obtain ⟨a1, a2, a3⟩ := dd_all (srtK (codeT B) (ks.map fun p => (show Tp Int from p.2))) (codeT B) srtK_pw
    refine srt_set (f := codeT B) (fun x y hx hy => hr.inj x y ((hm x).mp hx) ((hm y).mp hy)) ?_ a2 hn a1 fun t => (hm t).trans ((a3 t).trans srtK_mem).symm
    rw [List.pairwise_map]
    exact hs
  have e4 : Ex (upd H2 b (SetTO P w b L)) (upd (upd H2 b (SetTO P w b L)) p (.lst (L'.map fun q => V.ref q.1))) := Evl.Ex.new hpn
  refine q p _ (fresh_back (e2.trans e3) hpn) ((e2.trans e3).trans e4) ⟨_, upd_same, ?_⟩
  rw [cut_updn hpn, ← e]
  exact keys_reps fun z hz => hL z (hp.mem_iff.mp hz)
/-- data lean on no instance -/
theorem ins_ne {a r C dx : Addr} {fs : List (Str × V)} {u : HO} (h : Rd H a u) (hr : H r = some (.ins C dx fs)) (hu : ∀ C dx fs, u ≠ .ins C dx fs) : a ≠ r := fun z => by
  rcases h with h | ⟨o, h⟩
  · rw [z, hr] at h
    exact hu _ _ _ (Option.some.inj h).symm
  · rw [z, hr] at h
    cases h
theorem rd_cut {a r : Addr} {u : HO} (h : Rd H a u) (ne : a ≠ r) : Rd (cut H r) a u := by
  rcases h with h | ⟨o, h⟩
  · exact .inl (by rw [cut_ne ne]; exact h)
  · exact .inr ⟨o, by rw [cut_ne ne]; exact h⟩
theorem Tups.cutI {r C dx : Addr} {fs : List (Str × V)} (hr : H r = some (.ins C dx fs)) : Tups H (Z.cut H r) := fun a ys h => (cut_ne (fun z => by rw [z, hr] at h; cases h)).trans h
theorem rep_cutI {α : Type} [Dat α] [Flat α] {v : V} {xs : List α} {r C dx : Addr} {fs : List (Str × V)} (h : Rep K H v xs) (hr : H r = some (.ins C dx fs)) : Rep K (cut H r) v xs := by
  obtain ⟨a, vs, rfl, s, rs⟩ := Rep.list h
  refine rep_list ?_ (rs.imm (Tups.cutI hr))
  rcases s with s | s
  · exact .inl (rd_cut s (ins_ne s hr (fun _ _ _ z => by cases z)))
  · exact .inr s
/-! ### [f(a, b) for a, b in xs] -/
theorem wipe2 {m n : Nat} (hmn : m ≠ n) (v u : Option V) : wipe (((wipe σ [m, n]).set m v).set n u) [m, n] = wipe σ [m, n] := by
  have e : ∀ τ : L2.St, wipe τ [m, n] = (τ.set n none).set m none := fun τ => by first | rfl | (show (τ.set m none).set n none = _; exact List.set_comm none none hmn)
  rw [e, e]
  apply List.ext_getElem?
  intro i
  simp only [List.getElem?_set, List.length_set]
  split
  · rfl
  · split <;> rfl
theorem el_mapP {β : Type} [Dat β] [Flat β] {tl : TE} {xs : List (Tp Int)} {f : Tp Int → β} {m n : Nat} (hmn : m ≠ n) (h : ER K tl σ H xs) (two : ∀ t : Tp Int, t ∈ xs → List.length t = 2)
    (he : ∀ (t : Tp Int) H', t ∈ xs → Ex H H' → ER K te (((wipe σ [m, n]).set m (some (.int (List.getD (α := Int) t 0 0)))).set n (some (.int (List.getD (α := Int) t 1 0)))) H' (f t)) (hz : xs.length ≤ 100000) :
    EL K (tLc (iList K tl) (gTup K 2 (gCons (gName m) (gCons (gName n) gNil))) tYes te [m, n]) σ H (xs.map f) := fun H0 e0 Q q => h H0 e0 _ fun v H1 e1 r => by
  obtain ⟨a, vs, rfl, s, r⟩ := Rep.list r
  refine ⟨a, rfl, ⟨vs, s⟩, fun D hD => lc_list (K := K) (a := a) (xs := vs) (fun j H' => Ex H1 H' ∧ Own K H' D ((xs.take j).map f)) ⟨Evl.Ex.new hD, by simpa using Own.nil⟩ (fun j H' _ z => Evl.ex_l z.1 s) (fun j v H' hj z => ?_) (fun H' z => ?_)⟩
  · obtain ⟨x, hx, rx⟩ := r.got hj
    have hlt : j < xs.length := (List.getElem?_eq_some_iff.mp hx).1
    have hm := List.mem_of_getElem? hx
    have hx2 : (show List Int from x) = [List.getD (α := Int) x 0 0, List.getD (α := Int) x 1 0] := by
      have l2 := two x hm
      match x, l2 with
      | [a, b], _ => rfl
    refine g_pair (rx.mono z.1) hx2 ⟨wipe2 hmn _ _, he x H' hm (e0.trans (e1.trans z.1)) H' (Ex.refl H') _ fun w H2 e2 rw' => ?_⟩
    obtain ⟨acc, h1, r1⟩ := (z.2.mono e2).ex
    refine ⟨acc, h1, Evl.sz_lt (by rw [r1.len, List.length_map, List.length_take]; omega), ex_mut (z.1.trans e2) hD, acc ++ [w], upd_same, ?_⟩
    rw [cut_upd, show xs.take (j + 1) = xs.take j ++ [x] by rw [List.take_succ, hx]; rfl, List.map_append]
    exact r1.append (Reps.cons (rw'.imm (Tups.cut h1)) reps_nil)
  · have e : xs.take vs.length = xs := by rw [r.len, List.take_length]
    rw [e] at z
    exact q D H' (fresh_back e1 hD) (e1.trans z.1) z.2
end
end Z
set_option Elab.async false
set_option linter.all false
set_option autoImplicit false
namespace Z
open PySem L2
/-! the rules whose reading names the place's kit, with the kit told from outside: a block's place leans on its own names -/
section
variable {K : PySem.W.Frag} {X : Cx}
theorem k_ix_list (e : X.K = K) : IxR X (rIxL K) := e ▸ ix_list
theorem k_ix_tup (e : X.K = K) : IxR X (rIxT K) := e ▸ ix_tup
theorem k_sl_list (e : X.K = K) : SlR X (rSlL K) := e ▸ sl_list
theorem k_sl_tupA (e : X.K = K) : SlR X (rSlA K) := e ▸ sl_tupA
theorem k_op_in_seq (e : X.K = K) : OpR X (compareOp .In) (rIn K false) := e ▸ op_in_seq
theorem k_op_notIn_seq (e : X.K = K) : OpR X (compareOp .NotIn) (rIn K true) := e ▸ op_notIn_seq
theorem k_op_eqD (e : X.K = K) (hu : X.A.units + 64 < cLine) : OpR X (compareOp .Eq) (rEqD K) := e ▸ op_eqD hu
theorem k_op_neD (e : X.K = K) (hu : X.A.units + 64 < cLine) : OpR X (compareOp .NotEq) (rNeD K) := e ▸ op_neD hu
theorem k_op_catA (e : X.K = K) : OpR X (binaryOp .Add) (rCatA K) := e ▸ op_catA
theorem k_op_ltT (e : X.K = K) (hu : X.A.units < cLine) : OpR X (compareOp .Lt) (rLtT K) := e ▸ op_ltT hu
theorem k_call_len_seq (e : X.K = K) : CallR X (.builtin "len") fun xs H Q => ∃ p ys, xs = [.ref p] ∧ (SqL K H p ys ∨ SqT K H p ys) ∧ Q (.int ys.length) H := e ▸ call_len_seq
theorem k_call_list_of (e : X.K = K) : CallR X (.type "list") fun xs H Q => ∃ p ys, xs = [.ref p] ∧ (SqL K H p ys ∨ SqT K H p ys) ∧ ∀ l, H l = none → Q (.ref l) (upd H l (.lst ys)) := e ▸ call_list_of
theorem k_call_tuple_of (e : X.K = K) : CallR X (.type "tuple") fun xs H Q => ∃ p ys, xs = [.ref p] ∧ ((SqL K H p ys ∧ ∀ l, H l = none → Q (.ref l) (upd H l (.tup ys))) ∨ (SqT K H p ys ∧ Q (.ref p) H)) := e ▸ call_tuple_of
theorem k_call_isi (e : X.K = K) : CallR X (.builtin "isinstance") (rIsi K) := e ▸ call_isi
theorem k_mt_index (e : X.K = K) : MtR X "list.index" (rIndex K) := e ▸ mt_index
theorem k_pi_list {tg l : Expr} {tl : TE} (e : X.K = K) (h : PE X l tl) : PI X tg l (iList K tl) := e ▸ pi_list h
theorem k_pi_tup {tg l : Expr} {tl : TE} (e : X.K = K) (h : PE X l tl) : PI X tg l (iTup K tl) := e ▸ pi_tup h
theorem k_pi_enum {tg x : Expr} {ta : TA} (e : X.K = K) (h : PI X tg x (iEnum X.K ta)) : PI X tg x (iEnum K ta) := e ▸ h
theorem k_pi_zip {tg x : Expr} {ta : TA} (e : X.K = K) (h : PI X tg x (iZip X.K ta)) : PI X tg x (iZip K ta) := e ▸ h
theorem k_pe_fld {x : Expr} {ta : TE} {f : Str} (e : X.K = K) (h : PE X x (tFld X.K ta f)) : PE X x (tFld K ta f) := e ▸ h
theorem k_ps_fld {x : Stmt} {ta tv : TE} {f : Str} (e : X.K = K) (h : PS X x (sFld X.K ta tv f)) : PS X x (sFld K ta tv f) := e ▸ h
theorem k_pe_bm {x : Expr} {T : String} {r : V → List V → Hp → VK → Prop} {to : TE} {t : TA} (e : X.K = K) (h : PE X x (tBM X.K T r to t)) : PE X x (tBM K T r to t) := e ▸ h
theorem k_pe_bm0 {x : Expr} {T : String} {r : V → List V → Hp → VK → Prop} {to : TE} (e : X.K = K) (h : PE X x (tBM0 X.K T r to)) : PE X x (tBM0 K T r to) := e ▸ h
theorem k_pg_tup {x : Expr} {n : Nat} {t : TGs} (e : X.K = K) (h : PG X x (gTup X.K n t)) : PG X x (gTup K n t) := e ▸ h
theorem k_pe_revL {x : Expr} {te : TE} (e : X.K = K) (h : PE X x (tRevL X.K te)) : PE X x (tRevL K te) := e ▸ h
theorem k_pt_truth {x : Expr} {ta : TE} (e : X.K = K) (h : PT X x fun σ H Q => ta σ H fun v H' => ∃ k, TruV X.K v H' k ∧ Q k H') : PT X x fun σ H Q => ta σ H fun v H' => ∃ k, TruV K v H' k ∧ Q k H' := e ▸ h
theorem k_cr_all (e : X.K = K) (hc : X.calm = true) : CallR X (.builtin "all") (rAll K) := e ▸ cr_all hc
theorem k_cr_any (e : X.K = K) (hc : X.calm = true) : CallR X (.builtin "any") (rAny K) := e ▸ cr_any hc
theorem k_cr_sortedI (e : X.K = K) : CallR X (.builtin "sorted") (rSortedI K) := e ▸ cr_sortedI
theorem k_cr_sortedIT (e : X.K = K) : CallR X (.builtin "sorted") (rSortedIT K) := e ▸ cr_sortedIT
theorem k_cr_sortT {d : Nat} {B : Int} (e : X.K = K) (hd : 1 ≤ d) : CallR X (.builtin "sorted") (rSortU K d B) := e ▸ cr_sortT hd
theorem k_cr_sortedT {P : Program} {w : World} (e : X.K = K) (e1 : X.prog = P) (e2 : X.w = w) (hc : X.calm = true) : CallR X (.builtin "sorted") (rSortedT K P w) := e ▸ e1 ▸ e2 ▸ cr_sortedT hc
theorem k_cr_setOfT {P : Program} {w : World} (e : X.K = K) (e1 : X.prog = P) (e2 : X.w = w) (hc : X.calm = true) (hu : X.A.units + 64 < cLine) : CallR X (.type "set") (rSetOfT K P w) := e ▸ e1 ▸ e2 ▸ cr_setOfT hc hu
theorem k_op_inD (e : X.K = K) (hu : X.A.units + 65 < cLine) : OpR X (compareOp .In) (rInD K) := e ▸ op_inD hu
theorem k_op_notInD (e : X.K = K) (hu : X.A.units + 65 < cLine) : OpR X (compareOp .NotIn) (rNotInD K) := e ▸ op_notInD hu
theorem k_pi_enumT {tg x : Expr} {ta : TA} (e : X.K = K) (h : PI X tg x (iEnumT X.K ta)) : PI X tg x (iEnumT K ta) := e ▸ h
theorem k_cr_sum (e : X.K = K) (h : CallR X (.builtin "sum") (rSum X.K)) : CallR X (.builtin "sum") (rSum K) := e ▸ h
theorem u65 {k : Nat} {A : Around} (r : Room k A) : A.units + 65 < cLine := by have := r.un; omega
end
end Z
set_option Elab.async false
set_option linter.all false
set_option maxRecDepth 100000
set_option maxHeartbeats 4000000
set_option autoImplicit false
namespace Z
open PySem L2
/-- law(script): True -/
def spLaw (K : PySem.W.Frag) : Sp := fun vs H Q _ => ∃ (a : Addr) (ns : List Int), vs = [.ref a] ∧ SqL K H a (ns.map V.int) ∧ ns.length ≤ 63 ∧ ∀ H', Q (.bl true) H'
theorem walk {k : Nat} {l : PySem.W.OpenLaw} {q : Program} {loose : List Str} {XP : (Str → Option Value) → Heap → Prop} {YP : World → Heap → Prop} {d : DefRec} {K : Params → PySem.W.Frag} (hn : l.most = some 63) (hk : callerA.depth + 3 * k + 5 < recursionLimit) (hk2 : callerA.units + 16 * k + 200 < cLine) (hdf : d.params.defaults = []) (hY : ∀ (w : World) (h : Heap), YP w h → (K w.params).In h)
    (F : ∀ (w : World) (mg : Str → Option Value) (fa : Addr) (h : Heap), (K w.params).In h → h.Ns mainGlobals mg → mg d.name = some (.ref fa) →
      ∃ fd : FuncData, (∀ (s : Shared) (u : Value), BindsTo s fd ⟨[u], []⟩ [("script", u)]) ∧ ∀ base : Heap, (K w.params).In base → base.Ns mainGlobals mg → FnOk l.prog w (K w.params) mg base CX0 k fa fd ["script"] (spLaw (K w.params))) :
    PySem.W.WalkO q loose XP YP l.row.toRowW d [] (fun f vs => PySem.call f vs) :=
  L2.walk_of (n := 63) (k := k) (x := "script") (CX := fun _ => CX0) (sp := fun w => spLaw (K w.params)) hn (by decide) hdf ⟨rfl, hk, hk2⟩ hY F (fun _ _ a ns hl _ hS => ⟨a, ns, rfl, hS, hl, fun _ => rfl⟩) fun _ _ _ _ _ z => z
end Z
set_option Elab.async false
set_option linter.all false
set_option maxRecDepth 100000
set_option maxHeartbeats 4000000
set_option autoImplicit false
namespace Z
open PySem L2
theorem len1 {K : PySem.W.Frag} {α ε : Type} [Dat α] [Dat ε] {pre : α → Prop} {m : α → ε} {s1 : Str} : ∀ vs H Q E, sp1 K pre m vs H Q E → vs.length = [s1].length := fun vs H Q E h => by
  obtain ⟨v, x, rfl, _⟩ := h
  rfl
theorem len2 {K : PySem.W.Frag} {α β ε : Type} [Dat α] [Dat β] [Dat ε] {pre : α → β → Prop} {m : α → β → ε} {s1 s2 : Str} : ∀ vs H Q E, sp2 K pre m vs H Q E → vs.length = [s1, s2].length := fun vs H Q E h => by
  obtain ⟨v, u, x, y, rfl, _⟩ := h
  rfl
theorem len3 {K : PySem.W.Frag} {α β γ ε : Type} [Dat α] [Dat β] [Dat γ] [Dat ε] {pre : α → β → γ → Prop} {m : α → β → γ → ε} {s1 s2 s3 : Str} : ∀ vs H Q E, sp3 K pre m vs H Q E → vs.length = [s1, s2, s3].length := fun vs H Q E h => by
  obtain ⟨v, u, t, x, y, z, rfl, _⟩ := h
  rfl
theorem lel1 {K : PySem.W.Frag} {α ε : Type} [Dat α] [Dat ε] {pre : α → Prop} {m : α → List ε} {s1 : Str} : ∀ vs H Q E, sl1 K pre m vs H Q E → vs.length = [s1].length := fun vs H Q E h => by
  obtain ⟨v, x, rfl, _⟩ := h
  rfl
theorem lel2 {K : PySem.W.Frag} {α β ε : Type} [Dat α] [Dat β] [Dat ε] {pre : α → β → Prop} {m : α → β → List ε} {s1 s2 : Str} : ∀ vs H Q E, sl2 K pre m vs H Q E → vs.length = [s1, s2].length := fun vs H Q E h => by
  obtain ⟨v, u, x, y, rfl, _⟩ := h
  rfl
theorem lel3 {K : PySem.W.Frag} {α β γ ε : Type} [Dat α] [Dat β] [Dat γ] [Dat ε] {pre : α → β → γ → Prop} {m : α → β → γ → List ε} {s1 s2 s3 : Str} : ∀ vs H Q E, sl3 K pre m vs H Q E → vs.length = [s1, s2, s3].length := fun vs H Q E h => by
  obtain ⟨v, u, t, x, y, z, rfl, _⟩ := h
  rfl
end Z
namespace Z
open PySem L2
/-! ### the mirror -/
def cell (ns : List Int) (k : Int) : Int := if k < ns.length then ns.getD k.toNat 0 else 0
def big : Int → List Int → List Int
  | _, [] => []
  | r, b :: bs => r % b :: big (r / b) bs
def small : Int → List Int → List Int
  | _, [] => []
  | s, b :: bs => ((s * 48271 + 12345) % 2147483647) / 64 % b :: small ((s * 48271 + 12345) % 2147483647) bs
def drw (c : Int) (bs : List Int) : List Int := if 10 ^ 18 ≤ c then big (c - 10 ^ 18) bs else small (c % 2147483647) bs
def bigR (r : Int) (bs : List Int) : Int := bs.foldl (fun r b => r / b) r
def smallR (s : Int) (bs : List Int) : Int := bs.foldl (fun s _ => (s * 48271 + 12345) % 2147483647) s
theorem big_snoc (r b : Int) (bs : List Int) : big r (bs ++ [b]) = big r bs ++ [bigR r bs % b] := by
  induction bs generalizing r with
  | nil => rfl
  | cons c bs ih => simp [big, ih, bigR]
theorem small_snoc (s b : Int) (bs : List Int) : small s (bs ++ [b]) = small s bs ++ [((smallR s bs * 48271 + 12345) % 2147483647) / 64 % b] := by
  induction bs generalizing s with
  | nil => rfl
  | cons c bs ih => simp [small, ih, smallR]
theorem small_len (s : Int) (bs : List Int) : (small s bs).length = bs.length := by
  induction bs generalizing s with
  | nil => rfl
  | cons c bs ih => simp [small, ih]
theorem big_len (s : Int) (bs : List Int) : (big s bs).length = bs.length := by
  induction bs generalizing s with
  | nil => rfl
  | cons c bs ih => simp [big, ih]
theorem take_succ_get {α : Type} {xs : List α} {i : Nat} {x : α} (h : xs[i]? = some x) : xs.take (i + 1) = xs.take i ++ [x] := by rw [List.take_succ, h]; rfl
theorem smallR_lt {s : Int} (h0 : 0 ≤ s) (h1 : s < 2147483647) (bs : List Int) : 0 ≤ smallR s bs ∧ smallR s bs < 2147483647 := by
  unfold smallR
  induction bs generalizing s with
  | nil => exact ⟨h0, h1⟩
  | cons b bs ih => exact ih (Int.emod_nonneg _ (by decide)) (Int.emod_lt_of_pos _ (by decide))
theorem draw_len (c : Int) (bs : List Int) : (drw c bs).length = bs.length := by
  unfold drw
  split
  · exact big_len _ _
  · exact small_len _ _
theorem big_at {bs : List Int} {r : Int} {i : Nat} {b : Int} (h : bs[i]? = some b) (hb : 0 < b) : ∃ x, (big r bs)[i]? = some x ∧ 0 ≤ x ∧ x < b := by
  induction bs generalizing r i with
  | nil => cases h
  | cons c cs ih =>
    cases i with
    | zero =>
      cases h
      exact ⟨_, rfl, Int.emod_nonneg _ (by omega), Int.emod_lt_of_pos _ hb⟩
    | succ i => exact ih h
theorem small_at {bs : List Int} {r : Int} {i : Nat} {b : Int} (h : bs[i]? = some b) (hb : 0 < b) : ∃ x, (small r bs)[i]? = some x ∧ 0 ≤ x ∧ x < b := by
  induction bs generalizing r i with
  | nil => cases h
  | cons c cs ih =>
    cases i with
    | zero =>
      cases h
      exact ⟨_, rfl, Int.emod_nonneg _ (by omega), Int.emod_lt_of_pos _ hb⟩
    | succ i => exact ih h
theorem draw_at {bs : List Int} {c : Int} {i : Nat} {b : Int} (h : bs[i]? = some b) (hb : 0 < b) : ∃ x, atI (drw c bs) (i : Int) = some x ∧ 0 ≤ x ∧ x < b := by
  have : ∃ x, (drw c bs)[i]? = some x ∧ 0 ≤ x ∧ x < b := by
    unfold drw
    split
    · exact big_at h hb
    · exact small_at h hb
  obtain ⟨x, h1, h2⟩ := this
  exact ⟨x, Z.atI_ofN h1, h2⟩
end Z
set_option Elab.async false
set_option linter.all false
set_option maxRecDepth 100000
set_option maxHeartbeats 4000000
/-! Z: sorted(..) of any number of tuples of d ints; t * n; t.count(k); sum(t). -/
namespace Z
open PySem PySem.Spec PyProof.Rows L2
/-! ### sorted(xs), xs tuples of d ints in [0, B) -/
section
variable {prog : Program} {w : World} {A : Around} {E : Value → Shared → Prop} {s : Shared}
theorem tups_rest {B : Int} {Q : Bool → Shared → Prop} : ∀ {xs ys : List Value} {ns ms : List Int}, IntsAre xs ns → IntsAre ys ms → ns.length = ms.length → TS.Bd B ns → TS.Bd B ms → ∀ i, 1 ≤ i → Q (decide (TS.code B ns < TS.code B ms)) s → PySem.W.KatLex prog w A true false Q (xs.zip ys) i s
  | _, _, _, _, .nil, .nil, _, _, _, i, _, h => PySem.W.kat_nil (by
      have e : decide (TS.code B [] < TS.code B []) = false := decide_eq_false (by omega)
      rw [e] at h
      exact h)
  | _, _, _, _, .nil, .cons _ _ _, hl, _, _, _, _, _ => by cases hl
  | _, _, _, _, .cons _ _ _, .nil, hl, _, _, _, _, _ => by cases hl
  | _, _, _, _, .cons n t r, .cons m u q, hl, bn, bm, i, hi, h => by
    have hl' := Nat.succ.inj hl
    refine PySem.W.kat_cons (SeqAt.EqAt.int_int n t m u prog w _ _ (PySem.W.kat_go (fun e1 => ?_) fun e1 => ?_))
    · have ex : n = m := by simpa using e1
      subst ex
      refine PySem.W.kat_yes (tups_rest r q hl' bn.tail bm.tail (i + 1) (by omega) ?_)
      have e : decide (TS.code B (n :: _) < TS.code B (n :: _)) = decide (TS.code B _ < TS.code B _) := decide_eq_decide.mpr (TS.code_same hl')
      rw [e] at h
      exact h
    · have ex : ¬ n = m := by simpa using e1
      have e0 : (true && i == 0) = false := by
        rw [Bool.true_and]
        exact beq_eq_false_iff_ne.mpr (by omega)
      refine PySem.W.kat_no ?_
      rw [e0]
      refine PySem.W.kat_one _ _ (PyProof.Rows.lt_int ?_)
      have e : decide (TS.code B (n :: _) < TS.code B (m :: _)) = decide (n < m) := decide_eq_decide.mpr ⟨fun z => by
        rcases Int.lt_trichotomy n m with c | c | c
        · exact c
        · exact absurd c ex
        · have := TS.code_lt hl'.symm bm.tail bn.tail c
          omega, fun z => TS.code_lt hl' bn.tail bm.tail z⟩
      rw [e] at h
      exact h
theorem tups_first {B : Int} {Q : Bool → Shared → Prop} {xs ys : List Value} {ns ms : List Int} (hx : IntsAre xs ns) (hy : IntsAre ys ms) (hl : ns.length = ms.length) (h1 : 1 ≤ ns.length) (bn : TS.Bd B ns) (bm : TS.Bd B ms) (h : Q (decide (TS.code B ns < TS.code B ms)) s) : PySem.W.KatLex prog w A true false Q (xs.zip ys) 0 s := by
  cases hx with
  | nil => exact absurd h1 (by simp)
  | cons n t r =>
    cases hy with
    | nil => cases hl
    | cons m u q =>
      have hl' := Nat.succ.inj hl
      refine PySem.W.kat_cons (SeqAt.EqAt.int_int n t m u prog w _ _ (PySem.W.kat_go (fun e1 => ?_) fun e1 => ?_))
      · have ex : n = m := by simpa using e1
        subst ex
        refine PySem.W.kat_yes (tups_rest r q hl' bn.tail bm.tail 1 (by omega) ?_)
        have e : decide (TS.code B (n :: _) < TS.code B (n :: _)) = decide (TS.code B _ < TS.code B _) := decide_eq_decide.mpr (TS.code_same hl')
        rw [e] at h
        exact h
      · have ex : ¬ n = m := by simpa using e1
        refine PySem.W.kat_no (oneLt_int ?_)
        have e : decide (TS.code B (n :: _) < TS.code B (m :: _)) = decide (n < m) := decide_eq_decide.mpr ⟨fun z => by
          rcases Int.lt_trichotomy n m with c | c | c
          · exact c
          · exact absurd c ex
          · have := TS.code_lt hl'.symm bm.tail bn.tail c
            omega, fun z => TS.code_lt hl' bn.tail bm.tail z⟩
        rw [e] at h
        exact h
/-- v: a tuple of d ints in [0, B), k v -/
def TupD (h : Heap) (d : Nat) (B : Int) (v : Value) (ns : List Int) : Prop := TS.TupInts h v ns ∧ ns.length = d ∧ TS.Bd B ns
theorem TupD.keeps {h h' : Heap} {d : Nat} {B : Int} {v : Value} {ns : List Int} (x : TupD h d B v ns) (k : ∀ b o, h.get? b = some o → o.cls = .type "tuple" → h'.get? b = some o) : TupD h' d B v ns := by
  obtain ⟨⟨t, its, e, ⟨o, ho, hc, r⟩, hi⟩, h2⟩ := x
  exact ⟨⟨t, its, e, ⟨o, k _ o ho hc, hc, r⟩, hi⟩, h2⟩
theorem swo_code {B : Int} {k : Value → List Int} : SrtO.Swo fun v u => decide (TS.code B (k v) < TS.code B (k u)) := ⟨fun x y h => by
    have a := of_decide_eq_true h
    exact decide_eq_false (by omega), fun x y z h1 h2 => by
    have a := of_decide_eq_false h1
    have b := of_decide_eq_false h2
    exact decide_eq_false (by omega)⟩
theorem tups_cmp {d : Nat} {B : Int} {vs : List Value} {k : Value → List Int} (hd : 1 ≤ d) (hv : ∀ v ∈ vs, TupD s.heap d B v (k v)) : SrtO.Cmp prog w A s (tuples' true) (fun p => p.1 ∈ vs) (SrtO.lt2 fun v u => decide (TS.code B (k v) < TS.code B (k u))) := by
  intro p q hm hm'
  obtain ⟨⟨t, its, e, ⟨o, ho, hc, n, hdat⟩, hi⟩, hl, hb⟩ := hv _ hm
  obtain ⟨⟨t', its', e', ⟨o', ho', hc', n', hdat'⟩, hi'⟩, hl', hb'⟩ := hv _ hm'
  show wpAny (model prog w) A (keyLt' (tuples' true) p.1 q.1) (fun r s' => s' = s ∧ r = decide (TS.code B (k p.1) < TS.code B (k q.1))) (fun _ _ => False) s
  rw [e, e']
  refine PySem.W.kat_lt ho hdat ho' hdat' ?_
  have hz : its.size = its'.size := by
    have a1 := hi.length
    have a2 := hi'.length
    rw [Array.length_toList] at a1 a2
    omega
  rw [show decide (its.size < its'.size) = false from decide_eq_false (by omega)]
  rw [e] at hi hb hl
  rw [e'] at hi' hb' hl'
  exact tups_first (Q := fun r s' => s' = s ∧ r = decide (TS.code B (k (.ref t)) < TS.code B (k (.ref t')))) hi hi' (by omega) (by omega) hb hb' ⟨rfl, rfl⟩
theorem firsts_tups {d : Nat} {B : Int} (hd : 1 ≤ d) {k : Value → List Int} : ∀ {vs : List Value}, (∀ v ∈ vs, TupD s.heap d B v (k v)) → ∃ fs, PySem.W.KatTups s.heap vs fs ∧ fs.length = vs.length ∧ ∀ f ∈ fs, ∃ x t, f = Value.int x t
  | [], _ => ⟨[], trivial, rfl, fun f hf => by cases hf⟩
  | v :: vs, h => by
    obtain ⟨fs, h1, h2, h3⟩ := firsts_tups hd fun u hu => h u (List.mem_cons_of_mem _ hu)
    obtain ⟨⟨t, its, e, ⟨o, ho, hc, n, hdat⟩, hi⟩, hl, hb⟩ := h v (List.mem_cons_self ..)
    generalize k v = ns at hi hl hb
    obtain ⟨itl⟩ := its
    simp only at hi
    cases hi with
    | nil => exact absurd hl (by simp; omega)
    | cons m u r => exact ⟨.int m u :: fs, ⟨⟨t, o, _, n, e, ho, hc, hdat, rfl⟩, h1⟩, by rw [List.length_cons, List.length_cons, h2], fun f hf => by
        rcases List.mem_cons.mp hf with rfl | hf
        · exact ⟨_, _, rfl⟩
        · exact h3 f hf⟩
theorem tups_sortable {d : Nat} {B : Int} {a : Addr} {vs : List Value} {k : Value → List Int} (hd : 1 ≤ d) (h0 : 0 < vs.length) (hv : ∀ v ∈ vs, TupD s.heap d B v (k v)) (ha : ∀ o, s.heap.get? a = some o → o.cls ≠ .type "tuple") : SrtO.SortableO prog w A s a vs fun v u => decide (TS.code B (k v) < TS.code B (k u)) := by
  intro h' keep
  have hv' : ∀ v ∈ vs, TupD h' d B v (k v) := fun v hm => (hv v hm).keeps fun b o e c => keep b o (fun z => by subst z; exact ha o e c) e
  obtain ⟨fs, h1, h2, h3⟩ := firsts_tups (s := { s with heap := h' }) hd hv'
  refine ⟨tuples' true, fun Q E hq => ?_, tups_cmp (s := { s with heap := h' }) hd hv'⟩
  refine PySem.W.kat_kind (T := .type "int") h1 (by omega) (fun f hm => ?_) (by rfl) ?_
  · obtain ⟨x, t, rfl⟩ := h3 f hm
    exact PySem.W.Looks.now
  · have e : (Value.type "int" != Value.type "tuple") = true := by first | decide +kernel | rfl | decide
    rw [e]
    exact hq
end
/-- sorted(xs), xs a list of tuples of d ints in [0, B) -/
def rSortV (K : PySem.W.Frag) (d : Nat) (B : Int) : List V → Hp → VK → Prop := fun vs H Q => ∃ (a : Addr) (xs : List V), vs = [V.ref a] ∧ SqL K H a xs ∧ (∀ x ∈ xs, ∃ ns, TupI K H x ns ∧ ns.length = d ∧ TS.Bd B ns) ∧
  ∀ (ys : List V) (p : Addr), ys.Perm xs → ys.Pairwise (fun x y => ∀ n m, TupI K H x n → TupI K H y m → TS.code B n ≤ TS.code B m) → H p = none → Q (.ref p) (upd H p (.lst ys))
theorem cr_sortV {X : Cx} {d : Nat} {B : Int} (hd : 1 ≤ d) : CallR X (.builtin "sorted") (rSortV X.K d B) := by
  intro pins s σ H vs us Q I r h
  obtain ⟨a, xs, rfl, hs, hx, q⟩ := h
  obtain ⟨its, rv, hl, hz⟩ := I.list hs
  rw [Vals.ref1 r]
  obtain ⟨e1, e2⟩ := bkV_refs rv fun x m => by
    obtain ⟨ns, ⟨t, e, _⟩, _⟩ := hx x m
    exact ⟨t, e⟩
  have hall : ∀ v ∈ its, TupD s.heap d B v (TS.intsOf s.heap v) := fun v hv => by
    obtain ⟨t, rfl⟩ := e2 v hv
    have hm : V.ref t ∈ xs := by
      rw [e1]
      exact List.mem_map.mpr ⟨_, hv, rfl⟩
    obtain ⟨ns, ⟨t', e, ht⟩, hn, hb⟩ := hx _ hm
    cases e
    have hr := tupI_raw I ht
    rw [hr.ints]
    exact ⟨hr, hn, hb⟩
  refine SrtO.sorted_ord (swo_code (B := B) (k := TS.intsOf s.heap)) hl.isList (by rw [← rv.length]; exact hz) (fun h2 h₁ a' ha' kk => ?_) fun out h1 h2 => ?_
  · refine tups_sortable (s := { s with heap := h₁ }) hd (by omega) (fun v hm => (hall v hm).keeps fun b o e _ => (kk b o e).2) fun o e => ?_
    have e' : some o = some (seqObj "list" its.toArray 0) := e.symm.trans ha'
    cases e'
    intro c
    exact absurd (Value.type.inj c) (by decide)
  · obtain ⟨ep, he'⟩ := PyProof.Rows.sortedAll_at s.heap its out.toArray
    have h3 : ∀ u ∈ out, ∃ a, u = Value.ref a := fun u hu => e2 u (h2.perm.mem_iff.mp hu)
    have hp : (out.map bkV).Perm xs := by
      rw [e1]
      exact h2.perm.map bkV
    have hlen : (out.map bkV).length ≤ sizeLine := by
      rw [hp.length_eq]
      exact hz
    refine ⟨.ref _, upd H (s.heap.objs.size + 1) (.lst (out.map bkV)), I.laid (t' := s.toks) (fun _ _ => PyProof.Rows.sortedAll_old) (Nat.le_succ _) ⟨hlen, out, ep, bkV_vals h3, he'⟩, rfl, q _ _ hp ?_ (I.hok.fresh (Nat.le_succ _))⟩
    rw [List.pairwise_map]
    refine List.Pairwise.imp (fun {u v} huv n m hn hm => ?_) h1
    obtain ⟨t, et, ht⟩ := hn
    obtain ⟨t', et', ht'⟩ := hm
    have eu := bkV_ref et
    have ev := bkV_ref et'
    have i1 : TS.intsOf s.heap u = n := by
      rw [eu]
      exact (tupI_raw I ht).ints
    have i2 : TS.intsOf s.heap v = m := by
      rw [ev]
      exact (tupI_raw I ht').ints
    have := of_decide_eq_false huv
    rw [i1, i2] at this
    omega
theorem k_cr_sortV {K : PySem.W.Frag} {X : Cx} {d : Nat} {B : Int} (e : X.K = K) (hd : 1 ≤ d) : CallR X (.builtin "sorted") (rSortV K d B) := e ▸ cr_sortV hd
/-! ### t.count(k), sum(t) -/
def rCntT (K : PySem.W.Frag) : V → List V → Hp → VK → Prop := fun x xs H Q => ∃ (p : Addr) (ns : List Int) (k : Int), x = .ref p ∧ xs = [.int k] ∧ SqT K H p (ns.map V.int) ∧ Q (.int (ns.count k : Nat)) H
theorem mt_tcount {X : Cx} : MtR X "tuple.count" (rCntT X.K) := by
  intro pins s σ H x xs v us Q I rx rxs h
  obtain ⟨p, ns, k, rfl, rfl, hs, q⟩ := h
  cases rx
  obtain ⟨u, rfl, ru⟩ := rxs.one
  obtain ⟨t, rfl⟩ := ru
  obtain ⟨its, rv, ⟨⟨cls, dd, data, sl⟩, ho, hc, n, hd⟩, hlen⟩ := I.tuple hs
  simp only at hc hd
  subst hc hd
  have hi := ints_of_vals rv
  refine call_meets PySem.F.slot_tuple_count ⟨_, ho, rfl⟩ PySem.F.entry_tuple_count (PySem.F.args_tuple_count_2 _ _)
    (SeqAt.tuple_countAt p its.toArray n dd sl (.int k t) (eqk k)) ⟨ho, fun y hy => (eqk_gives hi y (by simpa using hy)).at _ _, ?_⟩
  have ec : its.toArray.toList.countP (eqk k) = ns.count k := eqk_count hi
  refine ⟨.int (ns.count k : Nat), H, I.tok _, ⟨s.toks, ?_⟩, q⟩
  show Value.int ((its.toArray.toList.countP (eqk k) : Nat) : Int) s.toks = Value.int ((ns.count k : Nat) : Int) s.toks
  rw [ec]
section
variable {prog : Program} {w : World} {A : Around} {E : Value → Shared → Prop} {s : Shared} {l : Addr} {xs : Array (Int × Tok)}
theorem sum_tup {Q : Value → Shared → Prop} (hh : A.handled = none) (hl : s.heap.IsTuple l (intItems xs))
    (h : ∀ h' tk t', (∀ b o, s.heap.get? b = some o → h'.get? b = some o) → Q (.int (preSum (numAt xs) xs.size) t') { s with heap := h', toks := tk }) :
    wpAny (model prog w) A (call (.builtin "sum") [.ref l]) Q E s := by
  have hlt : l < s.heap.objs.size := by obtain ⟨o, ho, _⟩ := hl; exact Heap.lt_size ho
  refine call_sum_walkG (wpAny_pyIter_tuple hl ?_)
  refine ⟨_, [s.heap.objs.size, l], [s.heap.objs.size], _, _, _, numAt xs, rfl, Walks.tuple (A := A.in1) hh _ l (Nat.ne_of_lt hlt) (intItems xs),
    ⟨⟨_, Heap.get?_push_size _ rfl, rfl, rfl⟩, ?_⟩, fun c hc => ?_, (fun _ _ => intItems_at), fun h' tk t' hk => ?_⟩
  · obtain ⟨o, ho, r⟩ := hl
    exact ⟨o, Heap.get?_push_of_some _ ho, r⟩
  · show c < (s.heap.push _).objs.size
    rw [Heap.size_push]
    rcases List.mem_cons.mp hc with rfl | hc
    · exact Nat.lt_succ_self _
    · rcases List.mem_cons.mp hc with rfl | hc
      · exact Nat.lt_succ_of_lt hlt
      · cases hc
  · have := h h' tk t' fun b o e => hk b o (fun hm => by
      rcases List.mem_cons.mp hm with e1 | hm
      · exact absurd (e1 ▸ Heap.lt_size e) (Nat.lt_irrefl _)
      · cases hm) (Heap.get?_push_of_some _ e)
    simpa [intItems] using this
end
def rSumT (K : PySem.W.Frag) : List V → Hp → VK → Prop := fun vs H Q => ∃ (a : Addr) (ns : List Int), vs = [V.ref a] ∧ SqT K H a (ns.map V.int) ∧ Q (.int ns.sum) H
theorem cr_sumT {X : Cx} (hc : X.calm = true) : CallR X (.builtin "sum") (rSumT X.K) := by
  intro pins s σ H vs us Q I r h
  obtain ⟨a, ns, rfl, hs, q⟩ := h
  obtain ⟨its, rv, hl, _⟩ := I.tuple hs
  rw [Vals.ref1 r]
  have hi := rv.ints
  obtain ⟨xs, e⟩ := hi.allInts.items
  have hn : numsOf (intItems xs).toList = ns := by rw [← e]; exact hi.numsOf
  rw [nums_intItems] at hn
  obtain ⟨o, ho, hcl, n, hd⟩ := hl
  rw [e] at hd
  refine sum_tup (I.ok.hd hc) (xs := xs) ⟨o, ho, hcl, n, hd⟩ fun h' tk t' hk => ⟨.int _, H, I.kept hk, ⟨_, rfl⟩, ?_⟩
  rw [preSum_eq, List.take_of_length_le (by simp), hn]
  exact q
theorem k_cr_sumT {K : PySem.W.Frag} {X : Cx} (e : X.K = K) (hc : X.calm = true) : CallR X (.builtin "sum") (rSumT K) := e ▸ cr_sumT hc
theorem k_mt_tcount {K : PySem.W.Frag} {X : Cx} (e : X.K = K) : MtR X "tuple.count" (rCntT K) := e ▸ mt_tcount
/-! ### t * n -/
theorem tuple_mul1 (l : Addr) (items : Array Value) (n : Nat) (dd : Option Addr) (sl : Array (Option Value)) (x : Int) (u : Tok) (c0 : (decide (x < -(2 ^ 63)) || decide (x ≥ 2 ^ 63)) = false) (c1 : (items.isEmpty || x == 1) = true) :
    Meets (Builtin.«tuple.__mul__» ⟨[.ref l, .int x u], []⟩) (fun _ R s => s.heap.get? l = some { cls := .type "tuple", dict := dd, data := .seq items n, slots := sl } ∧ R (.ok (.ret (Value.ref l))) s) :=
  .of_wp fun prog w A R s h => by
    obtain ⟨hp, g, d, tk, os⟩ := s
    obtain ⟨hl, h⟩ := h
    have f1 := AutoSeq1.idx_int
    wp_walk using wpAny_loadPart' hl
    repeat (first
      | (refine wpAny_ite_false (decide_eq_false (by rw [c0]; exact Bool.false_ne_true)) ?_; wp_walk using wpAny_loadPart' hl)
      | (refine wpAny_ite_true (decide_eq_true c1) ?_; wp_walk using wpAny_loadPart' hl))
    exact ⟨_, rfl, h⟩
theorem tuple_mul0 (l : Addr) (items : Array Value) (n : Nat) (dd : Option Addr) (sl : Array (Option Value)) (x : Int) (u : Tok) (c0 : (decide (x < -(2 ^ 63)) || decide (x ≥ 2 ^ 63)) = false) (c1 : (items.isEmpty || x == 1) = false) (c2 : (decide (x ≤ 0) || items.isEmpty) = true) :
    Meets (Builtin.«tuple.__mul__» ⟨[.ref l, .int x u], []⟩) (fun _ R s => s.heap.get? l = some { cls := .type "tuple", dict := dd, data := .seq items n, slots := sl } ∧
      R (.ok (.ret (Value.ref s.heap.objs.size))) { s with heap := s.heap.push { cls := Value.type "tuple", data := Data.seq #[] }, toks := s.toks }) :=
  .of_wp fun prog w A R s h => by
    obtain ⟨hp, g, d, tk, os⟩ := s
    obtain ⟨hl, h⟩ := h
    have f1 := AutoSeq1.idx_int
    wp_walk using wpAny_loadPart' hl
    repeat (first
      | (refine wpAny_ite_false (decide_eq_false (by rw [c0]; exact Bool.false_ne_true)) ?_; wp_walk using wpAny_loadPart' hl)
      | (refine wpAny_ite_false (decide_eq_false (by rw [c1]; exact Bool.false_ne_true)) ?_; wp_walk using wpAny_loadPart' hl)
      | (refine wpAny_ite_true (decide_eq_true c2) ?_; wp_walk using wpAny_loadPart' hl))
    exact ⟨_, rfl, h⟩
/-- t * n, t not empty -/
def rRepA (K : PySem.W.Frag) : R2 := fun x y H Q => ∃ l k xs, x = .ref l ∧ y = .int k ∧ SqT K H l xs ∧ xs ≠ [] ∧ -1000 ≤ k ∧ k ≤ 1000 ∧ xs.length ≤ 1000 ∧ (k = 1 → Q (.ref l) H) ∧ (k ≠ 1 → ∀ p, H p = none → Q (.ref p) (upd H p (.tup (List.replicate k.toNat xs).flatten)))
theorem op_repA {X : Cx} : OpR X (binaryOp .Mult) (rRepA X.K) := by
  intro pins s σ H x y v u Q I rx ry h
  obtain ⟨l, k, xs, rfl, rfl, hT, hne, hm, h2, hz, q1, q2⟩ := h
  by_cases hk : 2 ≤ k
  · exact op_repT pins s σ H _ _ v u Q I rx ry ⟨l, k, xs, rfl, rfl, hT, hne, hk, h2, hz, q2 (by omega)⟩
  cases rx
  obtain ⟨t, rfl⟩ := ry
  obtain ⟨its, r, ⟨⟨cls, dd, data, sl⟩, ho, hc, n, hd⟩, hs⟩ := I.tuple hT
  simp only at hc hd
  subst hc hd
  have hle : its.length = xs.length := r.length.symm
  have hn : its ≠ [] := fun e => hne (by
    rw [e] at hle
    exact List.eq_nil_of_length_eq_zero hle.symm)
  have hi : its.toArray.isEmpty = false := by
    cases its with
    | nil => exact absurd rfl hn
    | cons a b => rfl
  have c0 : (decide (k < -(2 ^ 63)) || decide (k ≥ 2 ^ 63)) = false := by
    rw [decide_eq_false (by omega), decide_eq_false (by omega)] <;> rfl
  by_cases h1 : k = 1
  · subst h1
    refine wpAny_binaryOp_repeat_ref (T := "tuple") (U := "int") (by decide) ⟨_, ho, rfl⟩ (fun s' => typeIs_int s' 1 t) noFill_tuple_mul F.fills_int_mul F.slot_int_rmul repeat_tuple F.slot_int_index.lookup
      (call_meets F.slot_int_rmul (typeIs_int s 1 t) F.entry_int_rmul (F.args_int_rmul_2 _ _) (int_rmul_tuple 1 t l its.toArray n dd sl)
        ⟨ho, rfl, ⟨_, ho, rfl⟩, call_meets F.slot_tuple_mul ⟨_, ho, rfl⟩ F.entry_tuple_mul (F.args_tuple_mul_2 _ _) (tuple_mul1 l its.toArray n dd sl 1 t c0 (by rw [hi]; rfl)) ⟨ho, ?_⟩⟩)
    exact ⟨.ref l, H, I, rfl, q1 rfl⟩
  · have h0 : k ≤ 0 := by omega
    have c1 : (its.toArray.isEmpty || k == 1) = false := by
      rw [hi, Bool.false_or]
      exact beq_eq_false_iff_ne.mpr h1
    have c2 : (decide (k ≤ 0) || its.toArray.isEmpty) = true := by rw [decide_eq_true h0]; rfl
    refine wpAny_binaryOp_repeat_ref (T := "tuple") (U := "int") (by decide) ⟨_, ho, rfl⟩ (fun s' => typeIs_int s' k t) noFill_tuple_mul F.fills_int_mul F.slot_int_rmul repeat_tuple F.slot_int_index.lookup
      (call_meets F.slot_int_rmul (typeIs_int s k t) F.entry_int_rmul (F.args_int_rmul_2 _ _) (int_rmul_tuple k t l its.toArray n dd sl)
        ⟨ho, rfl, ⟨_, ho, rfl⟩, call_meets F.slot_tuple_mul ⟨_, ho, rfl⟩ F.entry_tuple_mul (F.args_tuple_mul_2 _ _) (tuple_mul0 l its.toArray n dd sl k t c0 c1 c2) ⟨ho, ?_⟩⟩)
    have q2 := q2 h1
    rw [show k.toNat = 0 by omega] at q2
    refine ⟨.ref s.heap.objs.size, _, I.laid (t' := s.toks) (o := .tup []) (fun b ob q => Heap.get?_push_of_some _ q) (Nat.le_refl _) ?_, rfl, q2 _ (I.hok.fresh (Nat.le_refl _))⟩
    exact ⟨by rw [sizeLine_eq]; decide, [], .nil, IsTup.new _ _⟩
theorem k_op_repA {K : PySem.W.Frag} {X : Cx} (e : X.K = K) : OpR X (binaryOp .Mult) (rRepA K) := e ▸ op_repA
end Z
namespace Z
open PySem L2
open Evl (Ex)
open Dat
section
variable {K : PySem.W.Frag} {α : Type} [Dat α] {σ : L2.St} {H : Hp} {ta tb te : TE} {i : Int}
theorem er_repA {xs : Tp α} {n : Int} (ha : ER K ta σ H xs) (hb : ER K tb σ H n) (h0 : List.length xs ≠ 0) (h1 : -1000 ≤ n) (h2 : n ≤ 1000) (hz : List.length xs ≤ 1000) : ER K (tOp (rRepA K) ta tb) σ H (show Tp α from (List.replicate n.toNat (show List α from xs)).flatten) := fun H1 e Q q =>
  ha H1 e _ fun v H2 e2 r => hb.evI H2 (e.trans e2) _ fun H3 e3 => by
    obtain ⟨a, vs, rfl, s, r⟩ := Rep.tupP r
    have hl := r.len
    have s3 := e3 _ _ s
    have r3 := Reps.mono e3 r
    refine ⟨a, n, vs, rfl, rfl, SqT.of s3, (fun z => by rw [z] at hl; exact h0 hl.symm), h1, h2, by rw [hl]; exact hz, fun z => q _ H3 (e2.trans e3) (rep_tup s3 ?_), fun z p hp => q _ _ ((e2.trans e3).trans (Evl.Ex.new hp)) (rep_tup upd_same ((reps_rep (α := α) r3 n.toNat).mono (Evl.Ex.new hp)))⟩
    subst z
    show Reps K H3 vs (List.replicate 1 (show List α from xs)).flatten
    rw [List.replicate_one, List.flatten_cons, List.flatten_nil, List.append_nil]
    exact r3
theorem er_rep1 {x : α} {n : Int} (ha : ER K ta σ H (show Tp α from [x])) (hb : ER K tb σ H n) (h1 : -1000 ≤ n) (h2 : n ≤ 1000) : ER K (tOp (rRepA K) ta tb) σ H (show Tp α from List.replicate n.toNat x) := by
  have h := er_repA (xs := (show Tp α from [x])) ha hb (by show 1 ≠ 0; decide) h1 h2 (by show 1 ≤ 1000; decide)
  have e : (List.replicate n.toNat [x]).flatten = List.replicate n.toNat x := by
    generalize n.toNat = k
    induction k with
    | zero => rfl
    | succ k ih => rw [List.replicate_succ, List.flatten_cons, ih]; rfl
  exact e ▸ h
theorem er_sumT {xs : Tp Int} (ha : ER K ta σ H xs) : ER K (tCB (rSumT K) (tCons ta tNil)) σ H (List.sum (show List Int from xs)) := fun H1 e Q q =>
  ha H1 e _ fun v H2 e2 r => by
    obtain ⟨a, vs, rfl, s, r⟩ := Rep.tup r
    obtain rfl := Reps.ints r
    exact ⟨a, xs, rfl, s, q _ H2 e2 (rep_int _)⟩
theorem el_sortV {d : Nat} {B : Int} {xs : List (Tp Int)} (h : ER K te σ H xs) (hr : Rows d B xs) : EL K (tCB (rSortV K d B) (tCons te tNil)) σ H (srtK (codeT B) xs) := fun H1 e Q q => h H1 e _ fun v H2 e2 r => by
  obtain ⟨a, vs, rfl, s, r⟩ := Rep.list r
  refine ⟨a, vs, rfl, s, fun v hv => ?_, fun ws p hp hs hn => ?_⟩
  · obtain ⟨k, hk⟩ := List.getElem?_of_mem hv
    obtain ⟨t, ht, rt⟩ := r.got hk
    have hm := hr t (List.mem_of_getElem? ht)
    exact ⟨_, tupI_rep rt, hm.1, hm.2⟩
  · obtain ⟨ys, hy, ry⟩ := Reps.perm hp r
    have e : ys = srtK (codeT B) xs := by
      refine srtK_uniq hy ?_ hr.inj
      rw [List.pairwise_iff_getElem] at hs ⊢
      intro i j hi hj hij
      have li := ry.len
      obtain ⟨v1, h1, r1⟩ := ry.get (List.getElem?_eq_getElem hi)
      obtain ⟨v2, h2, r2⟩ := ry.get (List.getElem?_eq_getElem hj)
      obtain ⟨_, e1⟩ := List.getElem?_eq_some_iff.mp h1
      obtain ⟨_, e2⟩ := List.getElem?_eq_some_iff.mp h2
      have := hs i j (by omega) (by omega) hij
      rw [e1, e2] at this
      exact this _ _ (tupI_rep r1) (tupI_rep r2)
    subst e
    exact q p _ (fresh_back e2 hn) (e2.trans (Evl.Ex.new hn)) ⟨ws, upd_same, by rw [cut_updn hn]; exact ry⟩
end
end Z
set_option Elab.async false
set_option linter.all false
set_option maxRecDepth 100000
set_option maxHeartbeats 4000000
set_option autoImplicit false
/-! Z: dicts whose keys are tuples of ints; len(set(t)); x in an own instance; a class's constant. -/
namespace Z
open PySem PySem.Spec PyProof.Rows L2
/-! ### len(set(t)), t a tuple of different ints -/
def tLenSetT (K : PySem.W.Frag) (ta : TE) : TE := fun σ H Q => ta σ H fun x H1 => ∃ (l : Addr) (ns : List Int), x = V.ref l ∧ SqT K H1 l (ns.map V.int) ∧ ns.length < 1000 ∧ ns.Nodup ∧ Q (.int (ns.length : Nat)) H1
theorem pe_lenSetT {X : Cx} {a : Expr} {ta : TE} {p p2 q pos : Pos} (hc : X.calm = true) (hg : Gl X "len") (hm : X.mg "len" = none) (hg2 : Gl X "set") (hm2 : X.mg "set" = none) (ha : PE X a ta)
    (na : starEach [a] X.env = (false, eval a X.env) :: starEach [] X.env := by rfl) : PE X (.Call (.Name "len" p) [.Call (.Name "set" p2) [a] [] q] [] pos) (tLenSetT X.K ta) := by
  refine ⟨fun pins s σ H Q I h => ?_⟩
  refine Call_ (ld_blt I hg hm PySem.boot_len ?_)
  refine PyProof.Rows.callWith_builtin1 (PyProof.Rows.args_cons ?_ rfl) rfl rfl
  refine Call_ (ld_blt I hg2 hm2 PyProof.Rows.boot_set ?_)
  refine PyProof.Rows.callWith_type1 (PyProof.Rows.args_cons (thn (ha.run pins s σ H _ I h) fun v s1 ⟨x, H1, I1, r1, q1⟩ => PyProof.Rows.args_nil ?_) na) na rfl
  obtain ⟨l, ns, rfl, hq, h1, hnd, q1⟩ := q1
  cases r1
  obtain ⟨its, r, pl, hz⟩ := I1.tuple hq
  refine call_set_tupI (P := X.prog) (w := X.w) ns (I1.ok.hd hc) (show s1.heap.IsTuple l its.toArray from pl) (by simpa using r.ints) (by unfold scanBound; omega) fun h' tk c hS hle hk => ?_
  refine PyProof.Rows.args_nil ?_
  obtain ⟨o, es, ep, t, ho, hex, hd, _, hnod, hmem, _, hf, hn, _⟩ := hS
  have hl : es.size = ns.length := by
    have hp : (es.toList.map keyOf).Perm ns := (List.perm_ext_iff_of_nodup hnod hnd).mpr fun k => ((hmem k).symm.trans (by simp))
    have := hp.length_eq
    rw [List.length_map, Array.length_toList] at this
    exact this
  have I2 : Inv X pins σ H1 { s1 with heap := h', toks := tk } := I1.kept hk
  refine call_len_set ho hex hd hf (by omega) ⟨.int (ns.length : Nat), H1, I2.tok _, ⟨_, by rw [hl]⟩, q1⟩
theorem k_pe_lenSetT {K : PySem.W.Frag} {X : Cx} {x : Expr} {ta : TE} (e : X.K = K) (h : PE X x (tLenSetT X.K ta)) : PE X x (tLenSetT K ta) := e ▸ h
/-! ### x in c, x not in c: c of an own class -/
def rOwnIn (C : Addr) (sp : Sp) (E : XK) (neg : Bool) : R2 := fun x y H Q => ∃ a dx fs, y = .ref a ∧ H a = some (.ins C dx fs) ∧ sp [y, x] H (fun v H2 => ∃ b, v = .bl b ∧ Q (.bl (if neg then !b else b)) H2) E
section
variable {X : Cx} {CX : CXT} {k : Nat} {f C : Addr} {fd : FuncData} {ps : List Str} {sp : Sp} {E : XK}
theorem op_ownIn (hs : PySem.W.findIn X.K (.ref C) "__contains__" = some (some (.ref f))) (hf : PySem.W.isFn X.K (.ref f) = true) (F : FnOk X.prog X.w X.K X.mg X.base CX k f fd ps sp) (hr : Room k X.A) (hb : Binds X.K fd ps []) (hx : Passes CX X E) : OpR X (compareOp .In) (rOwnIn C sp E false) := by
  intro pins s σ H x y v u Q I rx ry h
  obtain ⟨a, dx, fs, rfl, ha, h⟩ := h
  obtain rfl : u = Value.ref a := ry
  obtain ⟨mA, O, _⟩ := ins_get I.hok ha
  obtain ⟨od, J, _⟩ := O.look
  obtain ⟨m, hF⟩ := I.fr
  refine PySem.W.in_K hF I.ok.mod.kin J hs hf ?_
  refine thn (run_fn (dvs := []) (ds := []) (us := [.ref a, v]) (vs := [.ref a, x]) F hr hb .nil hx I (.cons rfl (.cons rx .nil)) (by rw [List.append_nil]; exact h)) fun r s' hq => ?_
  obtain ⟨z, H', I', rz, b, rfl, q⟩ := hq
  obtain rfl : r = Value.bool b := rz
  exact wpAny_truthy_bool ⟨.bl b, H', I', rfl, q⟩
theorem op_ownNotIn (hs : PySem.W.findIn X.K (.ref C) "__contains__" = some (some (.ref f))) (hf : PySem.W.isFn X.K (.ref f) = true) (F : FnOk X.prog X.w X.K X.mg X.base CX k f fd ps sp) (hr : Room k X.A) (hb : Binds X.K fd ps []) (hx : Passes CX X E) : OpR X (compareOp .NotIn) (rOwnIn C sp E true) := by
  intro pins s σ H x y v u Q I rx ry h
  obtain ⟨a, dx, fs, rfl, ha, h⟩ := h
  obtain rfl : u = Value.ref a := ry
  obtain ⟨mA, O, _⟩ := ins_get I.hok ha
  obtain ⟨od, J, _⟩ := O.look
  obtain ⟨m, hF⟩ := I.fr
  refine PySem.W.notIn_K hF I.ok.mod.kin J hs hf ?_
  refine thn (run_fn (dvs := []) (ds := []) (us := [.ref a, v]) (vs := [.ref a, x]) F hr hb .nil hx I (.cons rfl (.cons rx .nil)) (by rw [List.append_nil]; exact h)) fun r s' hq => ?_
  obtain ⟨z, H', I', rz, b, rfl, q⟩ := hq
  obtain rfl : r = Value.bool b := rz
  exact wpAny_truthy_bool ⟨.bl (!b), H', I', rfl, q⟩
end
theorem u1 {k : Nat} {A : Around} (r : Room k A) : A.units + 1 < cLine := by have := r.un; omega
end Z
namespace Z
open PySem L2
open Evl (Ex)
open Dat
/-! ### dicts with tuple keys -/
def tkey (t : Tp Int) : List Key := (show List Int from t).map Sum.inl
theorem tkey_kV (t : Tp Int) : (tkey t).map kV = (show List Int from t).map V.int := by
  unfold tkey
  rw [List.map_map]
  rfl
theorem tkey_inj {t u : Tp Int} (h : tkey t = tkey u) : t = u := List.map_inj_right (fun _ _ e => Sum.inl.inj e) |>.mp h
section
variable {K : PySem.W.Frag} {α : Type} [Dat α] {σ : L2.St} {G H : Hp} {td ty tv te : TE} {u : TS} {D : Ends}
theorem key_at {v : V} {t : Tp Int} (r : Rep K H v t) : ∃ b, v = .ref b ∧ H b = some (.tup ((tkey t).map kV)) := by
  obtain ⟨b, vs, rfl, s, rr⟩ := Rep.tupP r
  obtain rfl := Reps.ints rr
  exact ⟨b, rfl, by rw [tkey_kV]; exact s⟩
theorem er_dinT {d : Addr} {kvs : List (List Key × V)} {t : Tp Int} (hd : EV K td σ H (.ref d)) (hk : ER K ty σ H t) (h : H d = some (.dT kvs)) : ER K (tDIn ty td) σ H (valV kvs (tkey t)).isSome := fun H1 e Q q =>
  hk H1 e _ fun v H2 e2 r => hd H2 (e.trans e2) _ fun H3 e3 => by
    obtain ⟨b, rfl, s⟩ := key_at (r.mono e3)
    exact ⟨d, _, rfl, DGet.t ((e.trans (e2.trans e3)) _ _ h) s, q _ H3 (e2.trans e3) (rep_bool _)⟩
theorem er_dnotinT {d : Addr} {kvs : List (List Key × V)} {t : Tp Int} (hd : EV K td σ H (.ref d)) (hk : ER K ty σ H t) (h : H d = some (.dT kvs)) : ER K (tDNotIn ty td) σ H (!(valV kvs (tkey t)).isSome) := fun H1 e Q q =>
  hk H1 e _ fun v H2 e2 r => hd H2 (e.trans e2) _ fun H3 e3 => by
    obtain ⟨b, rfl, s⟩ := key_at (r.mono e3)
    exact ⟨d, _, rfl, DGet.t ((e.trans (e2.trans e3)) _ _ h) s, q _ H3 (e2.trans e3) (rep_bool _)⟩
/-- d[t] = v -/
theorem s_dputT {d : Addr} {kvs : List (List Key × V)} {t : Tp Int} {v : V} (hv : EV K tv σ H v) (hd : ∀ H1, Ex H H1 → EV K td σ H1 (.ref d)) (hk : ∀ H1, Ex H H1 → ER K ty σ H1 t) (h : H d = some (.dT kvs)) (hl : kvs.length < 100000)
    (c : ∀ H', (∀ G, Ex G H → G d = none → Ex G H') → Tups H H' → H' d = some (.dT (putK kvs (tkey t) v)) → D.nx σ H') : sDPut td ty tv D σ H :=
  hv H (Ex.refl H) _ fun H1 e1 => hd H1 e1 H1 (Ex.refl H1) _ fun H2 e2 => hk H2 (e1.trans e2) H2 (Ex.refl H2) _ fun w H3 e3 r => by
    have e := e1.trans (e2.trans e3)
    have h3 := e _ _ h
    obtain ⟨b, rfl, s⟩ := key_at r
    refine ⟨d, _, rfl, DPut.t h3 s (Evl.sz_lt hl), c _ (fun G eG hG => ex_mut (eG.trans e) hG) (fun a ys z => ?_) upd_same⟩
    have z3 := e _ _ z
    rw [upd_ne (fun y => by rw [y, h3] at z3; cases z3)]
    exact z3
theorem q_dputT {d : Addr} {kvs : List (List Key × V)} {t : Tp Int} {v : V} (hv : EV K tv σ H v) (hd : ∀ H1, Ex H H1 → EV K td σ H1 (.ref d)) (hk : ∀ H1, Ex H H1 → ER K ty σ H1 t) (h : H d = some (.dT kvs)) (hl : kvs.length < 100000)
    (c : ∀ H', (∀ G, Ex G H → G d = none → Ex G H') → Tups H H' → H' d = some (.dT (putK kvs (tkey t) v)) → u D σ H') : tSeq (sDPut td ty tv) u D σ H := s_dputT (D := { D with nx := u D }) hv hd hk h hl c
theorem q_dnewT {i : Nat} (k : ∀ p H', H p = none → Ex H H' → H' p = some (.dT []) → u D (σ.set i (some (.ref p))) H') : tSeq (tAsg tDNewT (gName i)) u D σ H := fun p hp => k p _ hp (Evl.Ex.new hp) upd_same
theorem keys_reps' : ∀ {kvs : List (List Key × V)} {ts : List (Tp Int)} {bs : List Addr}, kvs.map (·.1) = ts.map tkey → IsKeys H kvs bs → Reps K H (bs.map V.ref) ts
  | [], [], _, _, .nil => reps_nil
  | [], _ :: _, _, hk, _ => by cases hk
  | _ :: _, [], _, hk, _ => by cases hk
  | kv :: kvs, t :: ts, _, hk, .cons h1 h2 => by
    rw [List.map_cons, List.map_cons] at hk
    injection hk with k1 k2
    refine Reps.cons ?_ (keys_reps' k2 h2)
    rw [k1, tkey_kV] at h1
    exact rep_tup h1 (Reps.int_map _)
/-- list(d) -/
theorem el_listD {d : Addr} {kvs : List (List Key × V)} {ts : List (Tp Int)} (hd : EV K td σ H (.ref d)) (h : H d = some (.dT kvs)) (hk : kvs.map (·.1) = ts.map tkey) :
    EL K (tCB (fun xs H Q => ∃ d kvs, xs = [V.ref d] ∧ Rd H d (.dT kvs) ∧ ∀ p bs, H p = none → IsKeys H kvs bs → Q (.ref p) (upd H p (.lst (bs.map V.ref)))) (tCons td tNil)) σ H ts := fun H1 e Q q =>
  hd H1 e _ fun H2 e2 => by
    exact ⟨d, kvs, rfl, .inl ((e.trans e2) _ _ h), fun p bs hp hb => q p _ (fresh_back e2 hp) (e2.trans (Evl.Ex.new hp)) ⟨_, upd_same, by
    rw [cut_updn hp]
    exact keys_reps' hk hb⟩⟩
theorem valV_none {κ : Type} [DecidableEq κ] {kvs : List (κ × V)} {k : κ} : valV kvs k = none ↔ k ∉ kvs.map (·.1) := by
  induction kvs with
  | nil => simp [valV_nil]
  | cons p r ih =>
    by_cases e : p.1 = k
    · rw [valV_pos e]
      simp [e]
    · rw [valV_neg e, ih]
      simp only [List.map_cons, List.mem_cons, not_or]
      exact ⟨fun h => ⟨fun z => e z.symm, h⟩, fun h => h.2⟩
end
end Z
namespace Z
open PySem L2
open Evl (Ex)
/-! ### a class's constant -/
theorem k_pe_cval {K : PySem.W.Frag} {X : Cx} {x : Expr} {ta : TE} {f : Str} (e : X.K = K) (h : PE X x (ClX.tCVal X.K ta f)) : PE X x (ClX.tCVal K ta f) := e ▸ h
theorem er_cval {K : PySem.W.Frag} {σ : L2.St} {H : Hp} {C : Addr} {mc : Value} {f : Str} {n : Int} (r : ClX.CRead K C mc) (k : ∃ t, ClX.CVal K C mc f (.int n) (.int n t)) : ER K (ClX.tCVal K (tC (.ref C)) f) σ H n := fun H1 e Q q =>
  let ⟨t, k⟩ := k
  ⟨C, mc, .int n, .int n t, rfl, r, k, q _ H1 (Ex.refl H1) (rep_int n)⟩
end Z
set_option Elab.async false
set_option linter.all false
set_option maxRecDepth 100000
set_option maxHeartbeats 2000000
set_option autoImplicit false
/-! Z: zip of two sequences, each a list or a tuple: what is asked of their iterators. -/
namespace Z
open PySem PySem.Spec PyProof.Rows
/-- iterators of one kind: it stands at i over l -/
structure SeqIt (prog : Program) (w : World) where
  Is : Heap → Addr → Addr → Nat → Prop
  Sq : Heap → Addr → Array Value → Prop
  isE : ∀ {h h' : Heap} {it l b : Addr} {i : Nat}, Is h it l i → Heap.ExtBut b h h' → it ≠ b → Is h' it l i
  sqE : ∀ {h h' : Heap} {l b : Addr} {xs : Array Value}, Sq h l xs → Heap.ExtBut b h h' → l ≠ b → Sq h' l xs
  atE : ∀ {h h' : Heap} {it l : Addr} {i : Nat}, Is h it l i → (∀ o, h.get? it = some o → h'.get? it = some o) → Is h' it l i
  lt : ∀ {h : Heap} {it l : Addr} {i : Nat}, Is h it l i → it < h.objs.size
  ob : ∀ {h : Heap} {it l : Addr} {i : Nat}, Is h it l i → ∃ o, h.get? it = some o ∧ ∀ v, o.data ≠ .cell v
  item : ∀ {A : Around} {E : Value → Shared → Prop} {s : Shared} {it l : Addr} {i : Nat} {items : Array Value} {x : Value} {Q : Value → Shared → Prop}, Is s.heap it l i → Sq s.heap l items → items[i]? = some x →
    (∀ h', Is h' it l (i + 1) → Heap.SameBut it s.heap h' → Q x { s with heap := h' }) → wpAny (model prog w) A (Builtin.SmallTypes.nextOf (.ref it)) Q E s
  fin : ∀ {A : Around} {E : Value → Shared → Prop} {s : Shared} {it l : Addr} {i : Nat} {items : Array Value} {Q : Value → Shared → Prop}, A.handled = none → Is s.heap it l i → Sq s.heap l items → items[i]? = none →
    (∀ h' e, Heap.ExtBut it s.heap h' → (∃ o, h'.get? e = some o ∧ o.cls = .type "StopIteration") → E (.ref e) { s with heap := h' }) → wpAny (model prog w) A (Builtin.SmallTypes.nextOf (.ref it)) Q E s
def listIt (prog : Program) (w : World) : SeqIt prog w where
  Is h it l i := h.IsListIter it l i
  Sq h l xs := h.IsList l xs
  isE x e d := x.extBut e d
  sqE x e d := x.extBut e d
  atE x e := x.at e
  lt x := by obtain ⟨_, e, _⟩ := x; exact Heap.lt_size e
  ob x := by obtain ⟨o, e, _, d⟩ := x; exact ⟨o, e, fun v q => by rw [d] at q; cases q⟩
  item h1 h2 h3 h4 := wpAny_nextOf_list_item h1 h2 h3 h4
  fin h0 h1 h2 h3 h4 := wpAny_nextOf_list_end h0 h1 h2 h3 h4
def tupIt (prog : Program) (w : World) : SeqIt prog w where
  Is h it l i := h.IsTupleIter it l i
  Sq h l xs := h.IsTuple l xs
  isE x e d := x.extBut e d
  sqE x e d := x.extBut e d
  atE x e := x.at e
  lt x := by obtain ⟨_, e, _⟩ := x; exact Heap.lt_size e
  ob x := by obtain ⟨o, e, _, d⟩ := x; exact ⟨o, e, fun v q => by rw [d] at q; cases q⟩
  item h1 h2 h3 h4 := RZ.nextOf_tuple_item h1 h2 h3 h4
  fin h0 h1 h2 h3 h4 := RZ.nextOf_tuple_end h0 h1 h2 h3 h4
section
variable {prog : Program} {w : World} {A : Around} {E : Value → Shared → Prop} {s : Shared} {g1 g2 : SeqIt prog w}
theorem zipG_item {z TI TO i1 i2 l1 l2 : Addr} {k1 k2 : Nat} {xs ys : Array Value} {x y a b : Value} {Q : Value → Shared → Prop} (D : ZipApart z TI TO i1 i2 l1 l2)
    (hz : IsZip s.heap z TI TO .none) (hTI : IsPair s.heap TI (.ref i1) (.ref i2)) (hTO : IsPair s.heap TO a b)
    (h1 : g1.Is s.heap i1 l1 k1) (h2 : g2.Is s.heap i2 l2 k2) (hl1 : g1.Sq s.heap l1 xs) (hl2 : g2.Sq s.heap l2 ys) (hx : xs[k1]? = some x) (hy : ys[k2]? = some y)
    (hQ : ∀ h', IsZip h' z TI TO (rawInt s.heap.objs.size) → IsPair h' TO x y → g1.Is h' i1 l1 (k1 + 1) → g2.Is h' i2 l2 (k2 + 1) → IsPair h' s.heap.objs.size x y → h'.objs.size = s.heap.objs.size + 1 →
      (∀ c o, c ≠ z → c ≠ TO → c ≠ i1 → c ≠ i2 → s.heap.get? c = some o → h'.get? c = some o) → Q (.ref s.heap.objs.size) { s with heap := h' }) :
    wpAny (model prog w) A (Builtin.«zip.__next__» ⟨[.ref z], []⟩) (fun fin s' => ∃ v, fin = .done (.ret v) ∧ Q v s') E s := by
  show wpAny _ _ (field (.ref z) 2 >>= _) _ _ _
  refine wpAny_bind (wpAny_field hz rfl (x := .bool false) rfl ?_)
  show wpAny _ _ (field (.ref z) 3 >>= _) _ _ _
  refine wpAny_bind (wpAny_field hz rfl (x := .ref TI) rfl ?_)
  refine wpAny_bind (wpAny_seqItems hTI rfl ?_)
  show wpAny _ _ (Builtin.SmallTypes.ownedTupleIsFree (.ref z) >>= _) _ _ _
  refine wpAny_bind ?_
  unfold Builtin.SmallTypes.ownedTupleIsFree
  refine wpAny_bind (wpAny_field hz rfl (x := .none) rfl (wpAny_pure ?_))
  simp only [if_true]
  refine wpAny_bind (wpAny_rule ?_)
  refine wpAny_bind (wpAny_field hz rfl (x := .ref TO) rfl ?_)
  refine wpAny_bind (wpAny_setField_rec hz (by simp) fun h₁ hz₁ hs₁ => ?_)
  replace hz₁ : IsZip h₁ z TI TO .ellipsis := hz₁
  refine wpAny_bind ?_
  simp only [List.zipIdx_cons, List.zipIdx_nil, List.forIn_cons, List.forIn_nil]
  refine wpAny_bind (wpAny_bind (wpAny_onRaise ?_))
  show wpAny _ _ (Builtin.SmallTypes.nextOf (.ref i1) >>= _) _ _ _
  refine wpAny_bind (g1.item (g1.isE h1 hs₁.extBut D.i1z) (g1.sqE hl1 hs₁.extBut D.l1z) hx fun h₂ h1₂ hs₂ => wpAny_pure ?_)
  have hTO₂ : IsPair h₂ TO a b := hs₂.extBut _ _ D.TOi1 (hs₁.extBut _ _ D.TOz hTO)
  refine wpAny_bind (wpAny_seqItems hTO₂ rfl ?_)
  refine wpAny_bind (wpAny_updateSeq_pair hTO₂ fun h₃ hTO₃ hs₃ => ?_)
  replace hTO₃ : IsPair h₃ TO x b := hTO₃
  refine wpAny_bind (wpAny_letGo (wpAny_pure ?_))
  refine wpAny_bind (wpAny_bind (wpAny_onRaise ?_))
  show wpAny _ _ (Builtin.SmallTypes.nextOf (.ref i2) >>= _) _ _ _
  refine wpAny_bind (g2.item (g2.isE (g2.isE (g2.isE h2 hs₁.extBut D.i2z) hs₂.extBut D.i12.symm) hs₃.extBut D.TOi2.symm)
    (g2.sqE (g2.sqE (g2.sqE hl2 hs₁.extBut D.l2z) hs₂.extBut D.l2i1) hs₃.extBut D.l2TO) hy fun h₄ h2₄ hs₄ => wpAny_pure ?_)
  have hTO₄ : IsPair h₄ TO x b := hs₄.extBut _ _ D.TOi2 hTO₃
  refine wpAny_bind (wpAny_seqItems hTO₄ rfl ?_)
  refine wpAny_bind (wpAny_updateSeq_pair hTO₄ fun h₅ hTO₅ hs₅ => ?_)
  replace hTO₅ : IsPair h₅ TO x y := hTO₅
  refine wpAny_bind (wpAny_letGo (wpAny_pure (wpAny_pure ?_)))
  refine wpAny_bind (wpAny_seqItems hTO₅ rfl ?_)
  refine wpAny_bind (wpAny_newTuple ?_)
  have hsz : h₅.objs.size = s.heap.objs.size := by rw [hs₅.1, hs₄.1, hs₃.1, hs₂.1, hs₁.1]
  have hz₅ : IsZip h₅ z TI TO .ellipsis := hs₅.extBut _ _ D.TOz.symm (hs₄.extBut _ _ D.i2z.symm (hs₃.extBut _ _ D.TOz.symm (hs₂.extBut _ _ D.i1z.symm hz₁)))
  have hk₅ : ∀ c o, c ≠ z → c ≠ TO → c ≠ i1 → c ≠ i2 → s.heap.get? c = some o → h₅.get? c = some o := fun c o c1 c2 c3 c4 e =>
    hs₅.extBut _ _ c2 (hs₄.extBut _ _ c4 (hs₃.extBut _ _ c2 (hs₂.extBut _ _ c3 (hs₁.extBut _ _ c1 e))))
  have h1₅ : g1.Is h₅ i1 l1 (k1 + 1) := g1.isE (g1.isE (g1.isE h1₂ hs₃.extBut D.TOi1.symm) hs₄.extBut D.i12) hs₅.extBut D.TOi1.symm
  have h2₅ : g2.Is h₅ i2 l2 (k2 + 1) := g2.isE h2₄ hs₅.extBut D.TOi2.symm
  have hzlt : z < h₅.objs.size := Heap.lt_size hz₅
  have hTOlt : TO < h₅.objs.size := Heap.lt_size hTO₅
  have hi1lt : i1 < h₅.objs.size := g1.lt h1₅
  have hi2lt : i2 < h₅.objs.size := g2.lt h2₅
  show wpAny _ _ (Builtin.SmallTypes.ownedTupleHandOut (.ref z) (.ref h₅.objs.size) >>= _) _ _ _
  refine wpAny_bind ?_
  unfold Builtin.SmallTypes.ownedTupleHandOut
  have hz₆ : IsZip (h₅.push { cls := .type "tuple", data := .seq #[x, y] }) z TI TO .ellipsis := Heap.get?_push_of_some _ hz₅
  refine wpAny_bind (wpAny_setField_rec hz₆ (by simp) fun h₇ hz₇ hs₇ => ?_)
  replace hz₇ : IsZip h₇ z TI TO (rawInt h₅.objs.size) := hz₇
  refine wpAny_setField_rec hz₇ (by simp) fun h₈ hz₈ hs₈ => ?_
  replace hz₈ : IsZip h₈ z TI TO (rawInt h₅.objs.size) := hz₈
  have up : ∀ c o, c ≠ z → h₅.get? c = some o → h₈.get? c = some o := fun c o c1 e => hs₈.extBut _ _ c1 (hs₇.extBut _ _ c1 (Heap.get?_push_of_some _ e))
  have hT₈ : IsPair h₈ h₅.objs.size x y := hs₈.extBut _ _ (Nat.ne_of_gt hzlt) (hs₇.extBut _ _ (Nat.ne_of_gt hzlt) (Heap.get?_push_size _ rfl))
  have hz8 : h₈.objs.size = h₅.objs.size + 1 := by rw [hs₈.1, hs₇.1, Heap.size_push]
  rw [hsz] at hz₈ hT₈ hz8
  refine wpAny_pure ⟨_, rfl, ?_⟩
  show Q (.ref h₅.objs.size) _
  rw [hsz]
  exact hQ h₈ hz₈ (up _ _ D.TOz hTO₅) (g1.atE h1₅ fun o e => up _ o D.i1z e) (g2.atE h2₅ fun o e => up _ o D.i2z e) hT₈ hz8 fun c o c1 c2 c3 c4 e => up c o c1 (hk₅ c o c1 c2 c3 c4 e)
theorem zipG_end {z TI TO i1 i2 l1 l2 : Addr} {k1 k2 : Nat} {xs ys : Array Value} {a b : Value} {Q : Fin → Shared → Prop} (hh : A.handled = none) (D : ZipApart z TI TO i1 i2 l1 l2)
    (hz : IsZip s.heap z TI TO .none) (hTI : IsPair s.heap TI (.ref i1) (.ref i2)) (hTO : IsPair s.heap TO a b)
    (h1 : g1.Is s.heap i1 l1 k1) (h2 : g2.Is s.heap i2 l2 k2) (hl1 : g1.Sq s.heap l1 xs) (hl2 : g2.Sq s.heap l2 ys) (hend : xs[k1]? = none ∨ ys[k2]? = none)
    (hE : ∀ h' e, (∀ c o, c ≠ z → c ≠ TO → c ≠ i1 → c ≠ i2 → s.heap.get? c = some o → h'.get? c = some o) → (∃ o, h'.get? e = some o ∧ o.cls = .type "StopIteration") → E (.ref e) { s with heap := h' }) :
    wpAny (model prog w) A (Builtin.«zip.__next__» ⟨[.ref z], []⟩) Q E s := by
  show wpAny _ _ (field (.ref z) 2 >>= _) _ _ _
  refine wpAny_bind (wpAny_field hz rfl (x := .bool false) rfl ?_)
  show wpAny _ _ (field (.ref z) 3 >>= _) _ _ _
  refine wpAny_bind (wpAny_field hz rfl (x := .ref TI) rfl ?_)
  refine wpAny_bind (wpAny_seqItems hTI rfl ?_)
  show wpAny _ _ (Builtin.SmallTypes.ownedTupleIsFree (.ref z) >>= _) _ _ _
  refine wpAny_bind ?_
  unfold Builtin.SmallTypes.ownedTupleIsFree
  refine wpAny_bind (wpAny_field hz rfl (x := .none) rfl (wpAny_pure ?_))
  simp only [if_true]
  refine wpAny_bind (wpAny_rule ?_)
  refine wpAny_bind (wpAny_field hz rfl (x := .ref TO) rfl ?_)
  refine wpAny_bind (wpAny_setField_rec hz (by simp) fun h₁ hz₁ hs₁ => ?_)
  replace hz₁ : IsZip h₁ z TI TO .ellipsis := hz₁
  refine wpAny_bind ?_
  simp only [List.zipIdx_cons, List.zipIdx_nil, List.forIn_cons, List.forIn_nil]
  refine wpAny_bind (wpAny_bind (wpAny_onRaise ?_))
  show wpAny _ _ (Builtin.SmallTypes.nextOf (.ref i1) >>= _) _ _ _
  cases hx : xs[k1]? with
  | none =>
    refine wpAny_bind (g1.fin hh (g1.isE h1 hs₁.extBut D.i1z) (g1.sqE hl1 hs₁.extBut D.l1z) hx fun h₂ e hs₂ he => ?_)
    obtain ⟨oe, hoe, hce⟩ := he
    have hz₂ : IsZip h₂ z TI TO .ellipsis := hs₂ _ _ D.i1z.symm hz₁
    have hez : e ≠ z := fun x => by subst x; rw [hz₂] at hoe; cases hoe; simp at hce
    refine wpAny_setField_rec hz₂ (by simp) fun h₃ _ hs₃ => hE h₃ e (fun c o c1 _ c3 _ x => hs₃.extBut _ _ c1 (hs₂ _ _ c3 (hs₁.extBut _ _ c1 x))) ⟨oe, hs₃.extBut _ _ hez hoe, hce⟩
  | some x =>
    have hy : ys[k2]? = none := by rcases hend with h | h; rw [hx] at h; cases h; exact h
    refine wpAny_bind (g1.item (g1.isE h1 hs₁.extBut D.i1z) (g1.sqE hl1 hs₁.extBut D.l1z) hx fun h₂ h1₂ hs₂ => wpAny_pure ?_)
    have hTO₂ : IsPair h₂ TO a b := hs₂.extBut _ _ D.TOi1 (hs₁.extBut _ _ D.TOz hTO)
    refine wpAny_bind (wpAny_seqItems hTO₂ rfl ?_)
    refine wpAny_bind (wpAny_updateSeq_pair hTO₂ fun h₃ hTO₃ hs₃ => ?_)
    refine wpAny_bind (wpAny_letGo (wpAny_pure ?_))
    refine wpAny_bind (wpAny_bind (wpAny_onRaise ?_))
    show wpAny _ _ (Builtin.SmallTypes.nextOf (.ref i2) >>= _) _ _ _
    refine wpAny_bind (g2.fin hh (g2.isE (g2.isE (g2.isE h2 hs₁.extBut D.i2z) hs₂.extBut D.i12.symm) hs₃.extBut D.TOi2.symm)
      (g2.sqE (g2.sqE (g2.sqE hl2 hs₁.extBut D.l2z) hs₂.extBut D.l2i1) hs₃.extBut D.l2TO) hy fun h₄ e hs₄ he => ?_)
    obtain ⟨oe, hoe, hce⟩ := he
    have hz₄ : IsZip h₄ z TI TO .ellipsis := hs₄ _ _ D.i2z.symm (hs₃.extBut _ _ D.TOz.symm (hs₂.extBut _ _ D.i1z.symm hz₁))
    have hez : e ≠ z := fun x => by subst x; rw [hz₄] at hoe; cases hoe; simp at hce
    refine wpAny_setField_rec hz₄ (by simp) fun h₅ _ hs₅ => hE h₅ e (fun c o c1 c2 c3 c4 x => hs₅.extBut _ _ c1 (hs₄ _ _ c4 (hs₃.extBut _ _ c2 (hs₂.extBut _ _ c3 (hs₁.extBut _ _ c1 x))))) ⟨oe, hs₅.extBut _ _ hez hoe, hce⟩
theorem next_zipG {z TI TO i1 i2 l1 l2 : Addr} {k1 k2 : Nat} {xs ys : Array Value} {x y a b : Value} {Q : Option Value → Shared → Prop} (D : ZipApart z TI TO i1 i2 l1 l2)
    (hz : IsZip s.heap z TI TO .none) (hTI : IsPair s.heap TI (.ref i1) (.ref i2)) (hTO : IsPair s.heap TO a b)
    (h1 : g1.Is s.heap i1 l1 k1) (h2 : g2.Is s.heap i2 l2 k2) (hl1 : g1.Sq s.heap l1 xs) (hl2 : g2.Sq s.heap l2 ys) (hx : xs[k1]? = some x) (hy : ys[k2]? = some y)
    (hQ : ∀ h', IsZip h' z TI TO (rawInt s.heap.objs.size) → IsPair h' TO x y → g1.Is h' i1 l1 (k1 + 1) → g2.Is h' i2 l2 (k2 + 1) → IsPair h' s.heap.objs.size x y → h'.objs.size = s.heap.objs.size + 1 →
      (∀ c o, c ≠ z → c ≠ TO → c ≠ i1 → c ≠ i2 → s.heap.get? c = some o → h'.get? c = some o) → Q (some (.ref s.heap.objs.size)) { s with heap := h' }) :
    wpAny (model prog w) A (pyNext (.ref z)) Q E s := by
  have hT : s.TypeIs (.ref z) "zip" := ⟨_, hz, rfl⟩
  unfold pyNext
  exact wpAny_bind (wpAny_attempt (wpAny_callSpecial?_slot (name := Str.ofString "__next__") hT F.slot_zip_next
    (wpAny_call_entry F.slot_zip_next hT F.entry_zip_next
      (zipG_item D hz hTI hTO h1 h2 hl1 hl2 hx hy fun h' a1 a2 a3 a4 a5 a6 a7 => wpAny_pure (hQ h' a1 a2 a3 a4 a5 a6 a7)) (F.args_zip_next_1 _))))
theorem next_zipG_end {z TI TO i1 i2 l1 l2 : Addr} {k1 k2 : Nat} {xs ys : Array Value} {a b : Value} {Q : Option Value → Shared → Prop} (hh : A.handled = none) (D : ZipApart z TI TO i1 i2 l1 l2)
    (hz : IsZip s.heap z TI TO .none) (hTI : IsPair s.heap TI (.ref i1) (.ref i2)) (hTO : IsPair s.heap TO a b)
    (h1 : g1.Is s.heap i1 l1 k1) (h2 : g2.Is s.heap i2 l2 k2) (hl1 : g1.Sq s.heap l1 xs) (hl2 : g2.Sq s.heap l2 ys) (hend : xs[k1]? = none ∨ ys[k2]? = none)
    (hQ : ∀ h', (∀ c o, c ≠ z → c ≠ TO → c ≠ i1 → c ≠ i2 → s.heap.get? c = some o → h'.get? c = some o) → Q none { s with heap := h' }) : wpAny (model prog w) A (pyNext (.ref z)) Q E s := by
  have hT : s.TypeIs (.ref z) "zip" := ⟨_, hz, rfl⟩
  unfold pyNext
  refine wpAny_bind (wpAny_attempt (wpAny_callSpecial?_slot (name := Str.ofString "__next__") hT F.slot_zip_next
    (wpAny_call_entry F.slot_zip_next hT F.entry_zip_next (zipG_end hh D hz hTI hTO h1 h2 hl1 hl2 hend fun h' e hk he => ?_) (F.args_zip_next_1 _))))
  obtain ⟨o, ho, hc⟩ := he
  refine wpAny_bind (wpAny_isInstance (T := "StopIteration") (b := true) ⟨o, ho, hc⟩ isSubtype_stop ?_)
  exact wpAny_pure (hQ _ hk)
end
/-! ### zip(xs, t): a list, a tuple -/
open L2 in
def ItzM (K : PySem.W.Frag) (a b : Addr) : It :=
  ⟨fun i H => ∃ (xs ys : List V) (x y : V), SqL K H a xs ∧ SqT K H b ys ∧ xs[i]? = some x ∧ ys[i]? = some y,
    fun i H v H' => ∃ T x y, v = .ref T ∧ H T = none ∧ H' = L2.upd H T (.tup [x, y]) ∧ (∀ xs, SqL K H a xs → xs[i]? = some x) ∧ ∀ ys, SqT K H b ys → ys[i]? = some y,
    fun i H => ∃ xs ys : List V, SqL K H a xs ∧ SqT K H b ys ∧ (xs.length ≤ i ∨ ys.length ≤ i)⟩
/-- the five things a zip lays -/
def ZipAt {prog : Program} {w : World} (g1 g2 : SeqIt prog w) (z TI TO i1 i2 a b : Addr) (i : Nat) (h : Heap) : Prop := IsZip h z TI TO .none ∧ IsPair h TI (.ref i1) (.ref i2) ∧ (∃ x y, IsPair h TO x y) ∧ g1.Is h i1 a i ∧ g2.Is h i2 b i
section
open L2
variable {P : Program} {w : World} {K : PySem.W.Frag} {elts : List Expr} {kk : Nat} {tpos : Pos} {a b z TI TO i1 i2 : Addr}
theorem zip5 {c : Addr} : c ∈ [z, TI, TO, i1, i2] ↔ c = z ∨ c = TI ∨ c = TO ∨ c = i1 ∨ c = i2 := by simp
theorem turn_zipM (D : ZipApart z TI TO i1 i2 a b) : Turn P w K (.Tuple elts kk tpos) (ItzM K a b) [z, TI, TO, i1, i2] z (ZipAt (listIt P w) (tupIt P w) z TI TO i1 i2 a b) where
  mem := List.mem_cons_self ..
  obj := fun i h st c hc => by
    obtain ⟨hz, hTI, ⟨x, y, hTO⟩, h1, h2⟩ := st
    rcases zip5.mp hc with rfl | rfl | rfl | rfl | rfl
    · exact ⟨_, hz, fun v q => nomatch q⟩
    · exact ⟨_, hTI, fun v q => nomatch q⟩
    · exact ⟨_, hTO, fun v q => nomatch q⟩
    · exact (listIt P w).ob h1
    · exact (tupIt P w).ob h2
  keep := fun i h h' st k => by
    obtain ⟨hz, hTI, ⟨x, y, hTO⟩, h1, h2⟩ := st
    have k' := fun c hc => k c (zip5.mpr hc)
    exact ⟨k' z (.inl rfl) _ hz, k' TI (.inr (.inl rfl)) _ hTI, ⟨x, y, k' TO (.inr (.inr (.inl rfl))) _ hTO⟩, (listIt P w).atE h1 (k' i1 (.inr (.inr (.inr (.inl rfl))))), (tupIt P w).atE h2 (k' i2 (.inr (.inr (.inr (.inr rfl)))))⟩
  item := by
    intro X hP hw hK hc i pins s σ H E I hf st hg
    subst hP hw hK
    obtain ⟨hz, hTI, ⟨x0, y0, hTO⟩, h1, h2⟩ := st
    obtain ⟨xs, ys, x, y, hqx, hqy, hx, hy⟩ := hg
    obtain ⟨its, rv, p, _⟩ := I.list hqx
    obtain ⟨its2, rv2, p2, _⟩ := I.tuple hqy
    obtain ⟨u, hu, ru⟩ := rv.get hx
    obtain ⟨u2, hu2, ru2⟩ := rv2.get hy
    have out : ∀ {c : Addr}, c ∉ [z, TI, TO, i1, i2] → c ≠ z ∧ c ≠ TO ∧ c ≠ i1 ∧ c ≠ i2 := fun hb => ⟨fun q => hb (zip5.mpr (.inl q)), fun q => hb (zip5.mpr (.inr (.inr (.inl q)))), fun q => hb (zip5.mpr (.inr (.inr (.inr (.inl q))))), fun q => hb (zip5.mpr (.inr (.inr (.inr (.inr q)))))⟩
    refine next_zipG (g1 := listIt X.prog X.w) (g2 := tupIt X.prog X.w) D hz hTI hTO h1 h2 p.isList (show s.heap.IsTuple b its2.toArray from p2) (x := u) (y := u2) (by simpa using hu) (by simpa using hu2) fun h' z' TO' h1' h2' hT hsz hk => ?_
    refine ⟨_, rfl, wpAny_letOwnedTupleGo_zip (s := { s with heap := h' }) z' fun h'' z'' sb => ?_⟩
    have hT2 := (sb.2 _ (Nat.ne_of_gt (Heap.lt_size hz))).trans hT
    have I1 := I.turnedNew (t' := s.toks) (ch := [z, TI, TO, i1, i2]) (ob := .tup [x, y]) (fun c o hb q => (sb.2 c (out hb).1).trans (hk c o (out hb).1 (out hb).2.1 (out hb).2.2.1 (out hb).2.2.2 q)) hf (Nat.le_refl _)
      (show ObjOk X.prog X.w (L2.upd H s.heap.objs.size (.tup [x, y])) h'' s.heap.objs.size (.tup [x, y]) from ⟨by show 2 ≤ sizeLine; decide, [u, u2], .cons ru (.cons ru2 .nil), ⟨_, hT2, rfl, _, rfl⟩⟩)
    refine ⟨.ref s.heap.objs.size, _, I1, rfl, ⟨_, x, y, rfl, I.hok.fresh (Nat.le_refl _), rfl, fun l hl => by rw [I.list_inj hl hqx]; exact hx, fun l hl => by rw [I.tuple_inj hl hqy]; exact hy⟩, ⟨z'', (sb.2 _ D.TIz).trans (hk _ _ D.TIz D.TITO D.TIi1 D.TIi2 hTI), ⟨u, u2, (sb.2 _ D.TOz).trans TO'⟩, (listIt X.prog X.w).atE h1' fun o q => (sb.2 _ D.i1z).trans q, (tupIt X.prog X.w).atE h2' fun o q => (sb.2 _ D.i2z).trans q⟩, fun c hcm => ?_⟩
    have hlt : c < s.heap.objs.size := by
      rcases zip5.mp hcm with rfl | rfl | rfl | rfl | rfl
      · exact Heap.lt_size hz
      · exact Heap.lt_size hTI
      · exact Heap.lt_size hTO
      · exact (listIt X.prog X.w).lt h1
      · exact (tupIt X.prog X.w).lt h2
    rw [L2.upd_ne (Nat.ne_of_lt hlt)]
    exact (hf c hcm).1
  done := by
    intro X hP hw hK hc i pins s σ H E I hf st hg
    subst hP hw hK
    obtain ⟨hz, hTI, ⟨x0, y0, hTO⟩, h1, h2⟩ := st
    obtain ⟨xs, ys, hqx, hqy, hend⟩ := hg
    obtain ⟨its, rv, p, _⟩ := I.list hqx
    obtain ⟨its2, rv2, p2, _⟩ := I.tuple hqy
    have l1 := rv.length
    have l2 := rv2.length
    have he : its.toArray[i]? = none ∨ its2.toArray[i]? = none := by
      rcases hend with q | q
      · exact .inl (by simp; omega)
      · exact .inr (by simp; omega)
    exact next_zipG_end (g1 := listIt X.prog X.w) (g2 := tupIt X.prog X.w) (I.ok.hd hc) D hz hTI hTO h1 h2 p.isList (show s.heap.IsTuple b its2.toArray from p2) he fun h' hk => ⟨rfl, I.turnedL (t' := s.toks) (ch := [z, TI, TO, i1, i2]) (fun c o hb q =>
      hk c o (fun q' => hb (zip5.mpr (.inl q'))) (fun q' => hb (zip5.mpr (.inr (.inr (.inl q'))))) (fun q' => hb (zip5.mpr (.inr (.inr (.inr (.inl q')))))) (fun q' => hb (zip5.mpr (.inr (.inr (.inr (.inr q')))))) q) hf⟩
  self := fun A i s Q E st h => wpAny_pyIter_zip st.1 h
end
/-- zip(l, t) made -/
theorem meets_zipM (l1 l2 : Addr) (xs ys : Array Value) :
    Meets (Builtin.«zip.__new__» ⟨[.type "zip", .ref l1, .ref l2], []⟩) (fun _ R s => s.heap.IsList l1 xs ∧ s.heap.IsTuple l2 ys ∧
      ∀ h4 h5 : Heap, h4 = (((s.heap.push { cls := .type "list_iterator", data := .fields #[.ref l1, .int 0 0] }).push { cls := .type "tuple_iterator", data := .fields #[.ref l2, .int 0 0] }).push { cls := .type "tuple", data := .seq #[.ref s.heap.objs.size, .ref (s.heap.push { cls := .type "list_iterator", data := .fields #[.ref l1, .int 0 0] }).objs.size] }).push { cls := .type "tuple", data := .seq #[.none, .none] } →
        h5 = h4.push { cls := .type "zip", data := .fields #[.none, .bool false, .bool false, .ref ((s.heap.push { cls := .type "list_iterator", data := .fields #[.ref l1, .int 0 0] }).push { cls := .type "tuple_iterator", data := .fields #[.ref l2, .int 0 0] }).objs.size,
          .ref (((s.heap.push { cls := .type "list_iterator", data := .fields #[.ref l1, .int 0 0] }).push { cls := .type "tuple_iterator", data := .fields #[.ref l2, .int 0 0] }).push { cls := .type "tuple", data := .seq #[.ref s.heap.objs.size, .ref (s.heap.push { cls := .type "list_iterator", data := .fields #[.ref l1, .int 0 0] }).objs.size] }).objs.size] } →
        R (.ok (.ret (.ref h4.objs.size))) { s with heap := h5 }) :=
  .of_wp fun prog w A R s h => by
    obtain ⟨hp, g, d, tk, os⟩ := s; obtain ⟨hl1, hl2, h⟩ := h
    have hsub := sub_zip
    have hL1 : Heap.IsList (Shared.heap ⟨hp, g, d, tk, os⟩) l1 xs := hl1
    have hL2 : Heap.IsTuple (Shared.heap ⟨hp.push { cls := .type "list_iterator", data := .fields #[.ref l1, .int 0 0] }, g, d, tk, os⟩) l2 ys := Heap.IsTuple.push hl2 _
    have h' := h _ _ rfl rfl
    wp_walk using wpAny_pyIter_list hL1, wpAny_pyIter_tuple hL2
    exact ⟨_, rfl, h'⟩
section
variable {prog : Program} {w : World} {A : Around} {E : Value → Shared → Prop} {s : Shared}
theorem call_zipM {l1 l2 : Addr} {xs ys : Array Value} {Q : Value → Shared → Prop} (hl1 : s.heap.IsList l1 xs) (hl2 : s.heap.IsTuple l2 ys)
    (h : ∀ h', ZipAt (listIt prog w) (tupIt prog w) (s.heap.objs.size + 4) (s.heap.objs.size + 2) (s.heap.objs.size + 3) s.heap.objs.size (s.heap.objs.size + 1) l1 l2 0 h' → (∀ c o, s.heap.get? c = some o → h'.get? c = some o) → Q (.ref (s.heap.objs.size + 4)) { s with heap := h' }) :
    wpAny (model prog w) A (call (.type "zip") [.ref l1, .ref l2]) Q E s := by
  refine callType_new F.called_zip (by decide) (F.typeCall_zip_2 _ _) (F.newCall_zip_2 _ _) (fun obj => F.args_object_init_3 obj _ _) F.entry_zip_new
    (meets_zipM l1 l2 xs ys) ⟨hl1, hl2, fun h4 h5 e4 e5 => ?_⟩
  have z1 : (s.heap.push { cls := .type "list_iterator", data := .fields #[.ref l1, .int 0 0] }).objs.size = s.heap.objs.size + 1 := Heap.size_push ..
  have z2 : ((s.heap.push { cls := .type "list_iterator", data := .fields #[.ref l1, .int 0 0] }).push { cls := .type "tuple_iterator", data := .fields #[.ref l2, .int 0 0] }).objs.size = s.heap.objs.size + 2 := by rw [Heap.size_push, z1]
  rw [z1] at e4
  have z3 : (((s.heap.push { cls := .type "list_iterator", data := .fields #[.ref l1, .int 0 0] }).push { cls := .type "tuple_iterator", data := .fields #[.ref l2, .int 0 0] }).push { cls := .type "tuple", data := .seq #[.ref s.heap.objs.size, .ref (s.heap.objs.size + 1)] }).objs.size = s.heap.objs.size + 3 := by rw [Heap.size_push, z2]
  have z4 : h4.objs.size = s.heap.objs.size + 4 := by rw [e4, Heap.size_push, z3]
  rw [z1, z2, z3] at e5
  have g5 : IsZip h5 h4.objs.size (s.heap.objs.size + 2) (s.heap.objs.size + 3) .none := by rw [e5]; exact Heap.get?_push_size _ rfl
  have g4 : IsPair h5 (s.heap.objs.size + 3) .none .none := by rw [e5, e4]; exact Heap.get?_push_of_some _ (Heap.get?_push_at z3.symm rfl)
  have g3 : IsPair h5 (s.heap.objs.size + 2) (.ref s.heap.objs.size) (.ref (s.heap.objs.size + 1)) := by rw [e5, e4]; exact Heap.get?_push_of_some _ (Heap.get?_push_of_some _ (Heap.get?_push_at z2.symm rfl))
  have g2 : h5.get? (s.heap.objs.size + 1) = some { cls := .type "tuple_iterator", data := .fields #[.ref l2, .int 0 0] } := by rw [e5, e4]; exact Heap.get?_push_of_some _ (Heap.get?_push_of_some _ (Heap.get?_push_of_some _ (Heap.get?_push_at z1.symm rfl)))
  have g1 : h5.get? s.heap.objs.size = some { cls := .type "list_iterator", data := .fields #[.ref l1, .int 0 0] } := by rw [e5, e4]; exact Heap.get?_push_of_some _ (Heap.get?_push_of_some _ (Heap.get?_push_of_some _ (Heap.get?_push_of_some _ (Heap.get?_push_size _ rfl))))
  rw [z4] at g5 ⊢
  refine ⟨⟨_, g5, rfl⟩, h h5 ⟨g5, g3, ⟨_, _, g4⟩, ⟨_, g1, rfl, rfl⟩, ⟨_, g2, rfl, rfl⟩⟩ fun c o x => ?_⟩
  rw [e5, e4]
  exact Heap.get?_push_of_some _ (Heap.get?_push_of_some _ (Heap.get?_push_of_some _ (Heap.get?_push_of_some _ (Heap.get?_push_of_some _ x))))
end
section
open L2
def iZipM (K : PySem.W.Frag) (ta : TA) : TI := fun σ H R => ta σ H fun vs H1 => ∃ a b xs ys, vs = [.ref a, .ref b] ∧ SqL K H1 a xs ∧ SqT K H1 b ys ∧ R (ItzM K a b) H1
theorem pi_zipM {X : Cx} {e e2 : Expr} {ta : TA} {p pos tpos : Pos} {elts : List Expr} {kk : Nat} (hg : Gl X "zip") (hm : X.mg "zip" = none) (ha : PA X [e, e2] ta)
    (hs : starEach [e, e2] X.env = (false, eval e X.env) :: starEach [e2] X.env := by rfl) (hpl : (backTo pos (starEach [e2] X.env)).any (·.1) = false := by rfl) :
    PI X (.Tuple elts kk tpos) (.Call (.Name "zip" p) [e, e2] [] pos) (iZipM X.K ta) := by
  refine ⟨fun pins s σ H R I h => ?_⟩
  refine Call_ (ld_blt I hg hm PyProof.Rows.boot_zip (PyProof.Rows.callWith_type1 (thn (ha.run pos pins s σ H _ I h) fun us s1 ⟨vs, H1, I1, r1, q1⟩ => ?_) hs hpl))
  obtain ⟨a, b, xs, ys, rfl, hqx, hqy, q⟩ := q1
  cases r1 with
  | cons r rr =>
    cases rr with
    | cons r' rr =>
      cases rr
      cases r
      cases r'
      obtain ⟨its, rv, p1, _⟩ := I1.list hqx
      obtain ⟨its2, rv2, p2, _⟩ := I1.tuple hqy
      obtain ⟨o2, ho2, _⟩ := id p2
      refine call_zipM p1.isList (show s1.heap.IsTuple b its2.toArray from p2) fun h' hz hk => wpAny_pyIter_zip hz.1 ?_
      have I2 : Inv X pins σ H1 { s1 with heap := h' } := I1.kept (t' := s1.toks) hk
      refine ⟨s1.heap.objs.size + 4, [s1.heap.objs.size + 4, s1.heap.objs.size + 2, s1.heap.objs.size + 3, s1.heap.objs.size, s1.heap.objs.size + 1], _, _, H1, rfl, I2, turn_zipM (PySem.W.ktu_apart s1.heap.objs.size a b p1.lt (Heap.lt_size ho2)), hz, fun c hcm => ?_, q⟩
      have hle : s1.heap.objs.size ≤ c := by
        rcases zip5.mp hcm with z | z | z | z | z
        · rw [z]; exact Nat.le_add_right _ _
        · rw [z]; exact Nat.le_add_right _ _
        · rw [z]; exact Nat.le_add_right _ _
        · rw [z]; exact Nat.le_refl _
        · rw [z]; exact Nat.le_add_right _ _
      exact I1.fpOk hle (I1.hok.fresh hle)
theorem k_pi_zipM {K : PySem.W.Frag} {X : Cx} {tg x : Expr} {ta : TA} (e : X.K = K) (h : PI X tg x (iZipM X.K ta)) : PI X tg x (iZipM K ta) := e ▸ h
end
end Z
set_option Elab.async false
set_option linter.all false
set_option maxRecDepth 100000
set_option maxHeartbeats 2000000
/-! Z: several except clauses, each with its name. -/
namespace Z
open PySem PySem.Spec PyProof.Rows L2
abbrev AsTS := Addr → Value → Option Addr → TS
def wAsMany (K : PySem.W.Frag) (Wout : WX) (D : Ends) : List (Value × Nat × AsTS) → WX
  | [] => Wout
  | (c, i, ts) :: r => fun cls d σ H => ∃ b, PySem.W.exmOne K cls c = some b ∧
      (b = true → ∀ a, H a = none → ts a cls d { nx := fun σ' H' => D.nx (σ'.set i none) H', rt := D.rt, bk := fun σ' H' => D.bk (σ'.set i none) H', ct := fun σ' H' => D.ct (σ'.set i none) H' } (σ.set i (some (.ref a))) H) ∧
      (b = false → wAsMany K Wout D r cls d σ H)
inductive HdsAs (X : Cx) : List ExceptHandler → List (Value × Nat × AsTS) → Prop
  | nil : HdsAs X [] []
  | cons {x n : Str} {c : Value} {i : Nat} {ts : AsTS} {b₀ : Stmt} {suite : List Stmt} {np pos' : Pos} {hds : List ExceptHandler} {l : List (Value × Nat × AsTS)} (hi : X.N[i]? = some n) (hln : X.env.kindOf n = some .local) (hc : Names X x c)
      (hsu : ∀ (a : Addr) (oe : Obj) (cls : Value) (d : Option Addr) (pn : List (Addr × Obj)), Zc cls d oe → (∃ vs, oe.data = .fields vs) → PSs (X.suite a ((a, oe) :: pn)) (b₀ :: suite) (ts a cls d)) (r : HdsAs X hds l) :
      HdsAs X (.ExceptHandler (some (.Name x np)) (some n) (b₀ :: suite) pos' :: hds) ((c, i, ts) :: l)
section
variable {X : Cx} {body : List Stmt} {h₀ : ExceptHandler} {hds : List ExceptHandler} {l : List (Value × Nat × AsTS)} {pos : Pos} {tb : WX → TS} {Wout : WX}
theorem ps_try_asMany (hs : X.stack = X.env :: X.outer) (hf : X.env.frame = some X.env.locals) (hN : X.N.Nodup) (tk : Takes X Wout)
    (hb : ∀ (W : WX) (pn : List (Addr × Obj)) (xe : Value → Shared → Prop), Takes (X.tr pn xe) W → PassesOwn (model X.prog X.w) X.A X.env xe → PSs (X.tr pn xe) body (tb W))
    (hh : HdsAs X (h₀ :: hds) l) : PS X (.Try body (h₀ :: hds) [] [] pos) (fun D σ H => tb (wAsMany X.K Wout D l) D σ H) := by
  refine ⟨fun pins s σ H D I h => ?_⟩
  have ok := I.ok
  have hfr : X.A.frames = some (X.env :: X.outer) := by rw [ok.frames, hs]
  refine wpAny_Try_except ?_
  refine wpAny_mono ((hb (wAsMany X.K Wout D l) (X.pn ++ pins) (fun e s₁ => wpAny (model X.prog X.w) X.A (noteFrame e X.env) (fun _ s₂ => wpAny (model X.prog X.w) X.A (setFlight e none) (fun _ s₃ =>
    wpAny (model X.prog X.w) X.A (handleBy e X.env (h₀ :: hds)) (SP X pins D) X.xe s₃) X.xe s₂) X.xe s₁) (fun u s' xx => ?_) PassesOwn.looking).run [] s σ H D (I.toTry _) h) (fun f s1 hsp => ?_) (fun e s1 he => he)
  · obtain ⟨a, B, sI, pins', σ', H', cls, d, rfl, J', nb, up, sky, na, os, ag, w⟩ := xx
    have J : Inv X pins σ' H' sI := J'.ofTry ok
    have sky' : Sky B (X.env :: X.outer) a (Zc cls d) X.env.locals s'.heap := by rw [← hs]; exact sky
    show wpAny (model X.prog X.w) X.A (noteFrame (.ref a) X.env) _ _ _
    refine Sky.land Zc.steady hfr hf sky' fun h3 fl3 up3 => ?_
    have J3 : Inv X pins σ' H' { s' with heap := h3 } := J.landed nb fl3.1 (up.trans up3) os ag
    obtain ⟨oe3, vs3, he3, hz3, hd3⟩ := fl3.there
    have nfr : a ∉ frs (X.env :: X.outer) := fun hm => by
      obtain ⟨_, o', e', hnf⟩ := fl3.2.2.1.mem hm
      rw [he3] at e'; cases e'
      exact hnf _ hd3
    have nL : a ≠ X.env.locals := fun z => nfr (List.mem_filterMap.mpr ⟨X.env, List.mem_cons_self, by rw [hf, z]⟩)
    have nF : a ∉ X.fs := fun hm => by
      obtain ⟨e, he, q⟩ := List.mem_filterMap.mp hm
      exact nfr (List.mem_filterMap.mpr ⟨e, List.mem_cons_of_mem _ he, q⟩)
    have S3 := J3.suite he3 hd3 na nL nF
    have LT : PySem.W.Looks (model X.prog X.w) h3 (typeOf (.ref a)) cls := fun A Q E s k q => wpAny_typeOf_ref (k _ _ he3) (by rw [hz3.1]; exact q)
    clear h hb
    suffices go : ∀ {hds' : List ExceptHandler} {l' : List (Value × Nat × AsTS)}, HdsAs X hds' l' → wAsMany X.K Wout D l' cls d σ' H' →
        wpAny (model X.prog X.w) X.A (handleBy (.ref a) X.env hds') (SP X pins D) X.xe { s' with heap := h3 } from go hh w
    intro hds' l' hk
    induction hk with
    | nil =>
      intro w
      refine wpAny_handleBy_nil ?_
      obtain ⟨k1, k2, k3, oe, vs, T, oT, ts', he, hz, hd, h1, hr⟩ := id fl3
      unfold PySem.passOn
      refine wpAny_bind (wpAny_field he hd h1 ?_)
      rw [if_neg (show ¬ ((Value.ref T == Value.none) = true) from by simp)]
      have fin : wpAny (model X.prog X.w) X.A (setFlight (.ref a) X.env.frame) (fun _ s4 => wpAny (model X.prog X.w) X.A (throw (.ref a) : Sem Flow) (SP X pins D) X.xe s4) X.xe { s' with heap := h3 } := by
        rw [hf]
        refine HandSPX.setFlight_upZ fl3 fun h4 hh4 up4 => wpAny_throw (tk _ _ ?_)
        exact ⟨a, B, sI, pins, σ', H', cls, d, rfl, J, nb, (up.trans up3).trans up4, .inr (.inr (by rw [hs]; exact hh4)), na, os, ag, w⟩
      first
        | exact wpAny_bind (wpAny_pure (wpAny_bind fin))
        | exact wpAny_bind fin
    | @cons x n c i ts b₀ suite np pos' hds2 l2 hi hln hc hsu r ih =>
      intro w
      obtain ⟨b, hb1, hyes, hno⟩ := w
      have hloc : Loc X.env.scope n := .inl hln
      refine wpAny_handleBy_cons (codeAny_handlers_test ?_) (by intro q; cases q)
      have LM := PySem.W.exm_one (M := model X.prog X.w) (J3.kIn) LT hb1
      have test : ∀ {Q : Value → Shared → Prop} {E : Value → Shared → Prop}, Q c { s' with heap := h3 } → wpAny (model X.prog X.w) (X.A.mark (some (.ref a))) (eval (.Name x np) X.env) Q E { s' with heap := h3 } := fun {Q E} q => by
        obtain ⟨hg, hdbg, hm | ⟨hm, hv, hnn⟩⟩ := hc
        · exact ld_glob (X := X.suite a ((a, oe3) :: (X.pn ++ pins))) S3 hg hm q hdbg
        · exact ld_blt (X := X.suite a ((a, oe3) :: (X.pn ++ pins))) S3 hg hm hv q hnn hdbg
      refine test (LM.here ?_)
      cases b with
      | true =>
        refine codeAny_handlers_suite_as ?_
        refine HandSPX.lands_againZ fl3 fun h4 fl4 up4 => ?_
        have J4 : Inv X pins σ' H' { s' with heap := h4 } := J.landed nb fl4.1 ((up.trans up3).trans up4) os ag
        obtain ⟨oe4, vs4, he4, hz4, hd4⟩ := fl4.there
        have S4 := J4.suite he4 hd4 na nL nF
        refine store_ok (X := X.suite a ((a, oe4) :: (X.pn ++ pins))) (v := .ref a) S4 hN hi hloc rfl (fun s5 S5 => ?_) (.inr hln)
        refine wpAny_mono ((hsu a oe4 cls d (X.pn ++ pins) hz4 ⟨_, hd4⟩).run [] s5 _ H' _ S5 (hyes rfl a na)) (fun f s6 hsp => ?_) (fun _ _ z => False.elim z)
        have end_ : ∀ {σ6 : L2.St} {H6 : Hp} {Q : Shared → Prop}, Inv (X.suite a ((a, oe4) :: (X.pn ++ pins))) [] σ6 H6 s6 → (∀ s7, Inv X pins (σ6.set i none) H6 s7 → Q s7) →
            wpAny (model X.prog X.w) X.A (do bindName X.env n .none; unbindBehindTheSuite X.env n pos') (fun _ s7 => Q s7) X.xe s6 := fun {σ6 H6 Q} S6 hq => gone_ok (S6.unsuite ok) hN hi hln hq
        cases f with
        | next =>
          obtain ⟨σ6, H6, S6, q6⟩ := hsp
          exact end_ S6 fun s7 J7 => ⟨_, _, J7, q6⟩
        | brk =>
          obtain ⟨σ6, H6, S6, q6⟩ := hsp
          exact end_ S6 fun s7 J7 => ⟨_, _, J7, q6⟩
        | cont =>
          obtain ⟨σ6, H6, S6, q6⟩ := hsp
          exact end_ S6 fun s7 J7 => ⟨_, _, J7, q6⟩
        | ret u =>
          obtain ⟨v6, σ6, H6, S6, r6, q6⟩ := hsp
          exact end_ S6 fun s7 J7 => ⟨_, _, _, J7, r6, q6⟩
      | false =>
        show wpAny _ X.A (handleBy (.ref a) X.env hds2) _ _ _
        exact ih (hno rfl)
  · cases f with
    | next =>
      obtain ⟨σ', H', J', q⟩ := hsp
      exact wpAny_execs_nil ⟨σ', H', J'.ofTry ok, q⟩
    | brk =>
      obtain ⟨σ', H', J', q⟩ := hsp
      exact ⟨σ', H', J'.ofTry ok, q⟩
    | cont =>
      obtain ⟨σ', H', J', q⟩ := hsp
      exact ⟨σ', H', J'.ofTry ok, q⟩
    | ret u =>
      obtain ⟨v, σ', H', J', r, q⟩ := hsp
      exact ⟨v, σ', H', J'.ofTry ok, r, q⟩
end
end Z
set_option Elab.async false
set_option linter.all false
set_option maxRecDepth 100000
set_option maxHeartbeats 4000000
set_option autoImplicit false
/-! Z: comprehensions over anything that is walked. -/
namespace Z
open PySem L2
open Evl (Ex)
open Dat
/-- an iterator that yields xs one by one and lets the heap grow -/
structure Walks {γ : Type} (J : It) (G : Hp) (xs : List γ) (Y : γ → V → Hp → Prop) : Prop where
  go : ∀ i H, i < xs.length → Ex G H → J.go i H
  stop : ∀ H, Ex G H → J.stop xs.length H
  yld : ∀ i x H v H', xs[i]? = some x → Ex G H → J.yld i H v H' → Ex H H' ∧ Y x v H'
def Grows {γ : Type} (Y : γ → V → Hp → Prop) : Prop := ∀ x v G H, Ex G H → Y x v G → Y x v H
structure EIn {γ : Type} (ti : TI) (σ : L2.St) (H : Hp) (xs : List γ) (Y : γ → V → Hp → Prop) : Prop where
  gr : Grows Y
  run : ∀ H1, Ex H H1 → ∀ R : It → Hp → Prop, (∀ J H2, Ex H1 H2 → Walks J H2 xs Y → R J H2) → ti σ H1 R
section
variable {K : PySem.W.Frag} {α β γ δ : Type} [Dat α] [Dat β] {σ : L2.St} {G H : Hp} {te tl tm : TE} {ti ti1 : TI} {tt : TT} {g : TG} {i k m n : Nat}
theorem gr_rep : Grows fun (x : α) v H => Rep K H v x := fun _ _ _ _ e r => r.mono e
theorem in_list {xs : List α} (h : ER K tl σ H xs) : EIn (iList K tl) σ H xs fun x v H => Rep K H v x := ⟨gr_rep, fun H1 e R q => h H1 e _ fun v H2 e2 r => by
  obtain ⟨a, vs, rfl, s, r⟩ := Rep.list r
  refine ⟨a, rfl, ⟨vs, s⟩, q _ H2 e2 ⟨fun i H hi e => ?_, fun H e => ⟨vs, Evl.ex_l e s, by rw [r.len]; exact Nat.le_refl _⟩, fun i x H v H' hx e y => ?_⟩⟩
  · exact ⟨vs, vs[i]'(by rw [r.len]; exact hi), Evl.ex_l e s, by simp [r.len, hi]⟩
  · obtain ⟨rfl, hy⟩ := y
    obtain ⟨v', hv', rv⟩ := r.get hx
    have := hy vs (Evl.ex_l e s)
    rw [hv'] at this
    cases this
    exact ⟨Ex.refl _, rv.mono e⟩⟩
theorem in_tup {xs : Tp α} (h : ER K tl σ H xs) : EIn (iTup K tl) σ H (show List α from xs) fun x v H => Rep K H v x := ⟨gr_rep, fun H1 e R q => h H1 e _ fun v H2 e2 r => by
  obtain ⟨a, vs, rfl, s, r⟩ := Rep.tup r
  refine ⟨a, rfl, ⟨vs, s⟩, q _ H2 e2 ⟨fun i H hi e => ?_, fun H e => ⟨vs, Evl.ex_t e s, by rw [r.len]; exact Nat.le_refl _⟩, fun i x H v H' hx e y => ?_⟩⟩
  · have hi : i < List.length xs := hi
    exact ⟨vs, vs[i]'(by rw [r.len]; exact hi), Evl.ex_t e s, by simp [r.len, hi]⟩
  · obtain ⟨rfl, hy⟩ := y
    obtain ⟨v', hv', rv⟩ := r.get hx
    have := hy vs (Evl.ex_t e s)
    rw [hv'] at this
    cases this
    exact ⟨Ex.refl _, rv.mono e⟩⟩
theorem in_str {z : Str} (h : ER K tl σ H z) : EIn (iStr tl) σ H z.cps.toList fun c v _ => v = .str ⟨#[c]⟩ := ⟨fun _ _ _ _ _ r => r, fun H1 e R q => h H1 e _ fun v H2 e2 r => by
  obtain rfl := Rep.str r
  refine ⟨z, rfl, q _ H2 e2 ⟨fun i H hi e => by rw [Array.length_toList] at hi; exact hi, fun H e => by rw [Array.length_toList]; exact Nat.le_refl _, fun i x H v H' hx e y => ?_⟩⟩
  obtain ⟨rfl, c, hc, rfl⟩ := y
  rw [Array.getElem?_toList, hc] at hx
  cases hx
  exact ⟨Ex.refl _, rfl⟩⟩
theorem in_rng {nn : Int} (h : ER K tl σ H nn) (h0 : -(2 ^ 62) ≤ nn) (h1 : nn < 2 ^ 62) : EIn (iRng1 (tCons tl tNil)) σ H (List.range nn.toNat) fun k v _ => v = .int (k : Nat) := ⟨fun _ _ _ _ _ r => r, fun H1 e R q => h.evI H1 e _ fun H2 e2 => by
  refine ⟨nn, rfl, h0, h1, q _ H2 e2 ⟨fun i H hi e => by rw [List.length_range] at hi; exact hi, fun H e => by rw [List.length_range]; exact Nat.le_refl _, fun i x H v H' hx e y => ?_⟩⟩
  obtain ⟨rfl, rfl⟩ := y
  obtain ⟨hi, rfl⟩ := List.getElem?_eq_some_iff.mp hx
  rw [List.getElem_range, Int.zero_add]
  exact ⟨Ex.refl _, rfl⟩⟩
/-- a pair that comes by: its items -/
def Y2 (K : PySem.W.Frag) (A B : γ → V → Hp → Prop) : γ → V → Hp → Prop := fun x v H => ∃ T u w, v = .ref T ∧ SqT K H T [u, w] ∧ A x u H ∧ B x w H
theorem gr_Y2 {A B : γ → V → Hp → Prop} (hA : Grows A) (hB : Grows B) : Grows (Y2 K A B) := fun x v G H e ⟨T, u, w, h1, h2, h3, h4⟩ => ⟨T, u, w, h1, Evl.ex_t e h2, hA _ _ _ _ e h3, hB _ _ _ _ e h4⟩
theorem in_enum {xs : List α} (h : ER K tl σ H xs) : EIn (iEnum K (tCons tl tNil)) σ H ((List.range xs.length).zip xs) (Y2 K (fun p v _ => v = .int (p.1 : Nat)) fun p v H => Rep K H v p.2) := ⟨gr_Y2 (fun _ _ _ _ _ r => r) fun _ _ _ _ e r => r.mono e, fun H1 e R q => h H1 e _ fun v H2 e2 r => by
  obtain ⟨a, vs, rfl, s, r⟩ := Rep.list r
  have hl : ((List.range xs.length).zip xs).length = xs.length := by rw [List.length_zip, List.length_range, Nat.min_self]
  refine ⟨a, vs, rfl, s, q _ H2 e2 ⟨fun i H hi e => ?_, fun H e => ⟨vs, Evl.ex_l e s, by rw [r.len, hl]; exact Nat.le_refl _⟩, fun i x H v H' hx e y => ?_⟩⟩
  · rw [hl] at hi
    exact ⟨vs, vs[i]'(by rw [r.len]; exact hi), Evl.ex_l e s, by simp [r.len, hi]⟩
  · obtain ⟨T, x', rfl, hT, rfl, hy⟩ := y
    obtain ⟨h1, h2⟩ := List.getElem?_zip_eq_some.mp hx
    obtain ⟨hi, hi'⟩ := List.getElem?_eq_some_iff.mp h1
    rw [List.getElem_range] at hi'
    obtain ⟨v', hv', rv⟩ := r.get h2
    have := hy vs (Evl.ex_l e s)
    rw [hv'] at this
    cases this
    exact ⟨Evl.Ex.new hT, T, _, _, rfl, SqT.of upd_same, by rw [hi'], rv.mono (e.trans (Evl.Ex.new hT))⟩⟩
theorem in_zipM {xs : List α} {ys : Tp β} (h : ER K tl σ H xs) (h' : ER K tm σ H ys) : EIn (iZipM K (tCons tl (tCons tm tNil))) σ H (xs.zip (show List β from ys)) (Y2 K (fun p v H => Rep K H v p.1) fun p v H => Rep K H v p.2) := ⟨gr_Y2 (fun _ _ _ _ e r => r.mono e) fun _ _ _ _ e r => r.mono e, fun H1 e R q => h H1 e _ fun v H2 e2 r => h' H2 (e.trans e2) _ fun v' H3 e3 r' => by
  obtain ⟨a, vs, rfl, s, r⟩ := Rep.list (r.mono e3)
  obtain ⟨b, ws, rfl, s', r'⟩ := Rep.tup r'
  have l1 := r.len
  have l2 : ws.length = List.length ys := r'.len
  refine ⟨a, b, vs, ws, rfl, s, s', q _ H3 (e2.trans e3) ⟨fun i H hi e => ?_, fun H e => ⟨vs, ws, Evl.ex_l e s, Evl.ex_t e s', ?_⟩, fun i x H v H' hx e y => ?_⟩⟩
  · rw [List.length_zip] at hi
    have : min xs.length (List.length ys) ≤ xs.length := Nat.min_le_left _ _
    have : min xs.length (List.length ys) ≤ List.length ys := Nat.min_le_right _ _
    have hi : i < min xs.length (List.length ys) := hi
    exact ⟨vs, ws, vs[i]'(by omega), ws[i]'(by omega), Evl.ex_l e s, Evl.ex_t e s', List.getElem?_eq_getElem _, List.getElem?_eq_getElem _⟩
  · rw [List.length_zip, l1, l2]
    show xs.length ≤ min xs.length (List.length ys) ∨ List.length ys ≤ min xs.length (List.length ys)
    omega
  · obtain ⟨T, x1, x2, rfl, hT, rfl, hy1, hy2⟩ := y
    obtain ⟨h1, h2⟩ := List.getElem?_zip_eq_some.mp hx
    obtain ⟨v1, hv1, rv1⟩ := r.get h1
    obtain ⟨v2, hv2, rv2⟩ := r'.get h2
    have z1 := hy1 vs (Evl.ex_l e s)
    rw [hv1] at z1
    cases z1
    have z2 := hy2 ws (Evl.ex_t e s')
    rw [hv2] at z2
    cases z2
    exact ⟨Evl.Ex.new hT, T, _, _, rfl, SqT.of upd_same, rv1.mono (e.trans (Evl.Ex.new hT)), rv2.mono (e.trans (Evl.Ex.new hT))⟩⟩
/-- pairs in a list -/
theorem gr_pair {α β : Type} [Dat α] [Dat β] : Grows (Y2 K (fun (p : α × β) v H => Rep K H v p.1) fun p v H => Rep K H v p.2) := gr_Y2 (fun _ _ _ _ e r => r.mono e) fun _ _ _ _ e r => r.mono e
theorem EIn.mono {xs : List γ} {Y Y' : γ → V → Hp → Prop} (h : EIn ti σ H xs Y) (g : Grows Y') (hy : ∀ x v H, Y x v H → Y' x v H) : EIn ti σ H xs Y' := ⟨g, fun H1 e R q => h.run H1 e R fun J H2 e2 W => q J H2 e2 ⟨W.go, W.stop, fun i x H v H' hx e y => ⟨(W.yld i x H v H' hx e y).1, hy _ _ _ (W.yld i x H v H' hx e y).2⟩⟩⟩
theorem EIn.pairs {α β : Type} [Dat α] [Dat β] {xs : List (α × β)} (h : EIn ti σ H xs fun x v H => Rep K H v x) : EIn ti σ H xs (Y2 K (fun (p : α × β) v H => Rep K H v p.1) fun p v H => Rep K H v p.2) := h.mono gr_pair fun x v H r => by
  obtain ⟨a, u, w, rfl, s, r1, r2⟩ := Rep.pair r
  exact ⟨a, u, w, rfl, s, r1, r2⟩
/-! ### where the target's names lead -/
structure GoesTo {γ : Type} (g : TG) (τ : L2.St) (vs : List Nat) (Y : γ → V → Hp → Prop) (S : γ → L2.St → Hp → Prop) : Prop where
  run : ∀ x v H (R : L2.St → Hp → Prop), Y x v H → (∀ σ2, S x σ2 H → R σ2 H) → g v τ H R
  gr : ∀ x σ2 G H, Ex G H → S x σ2 G → S x σ2 H
  wi : ∀ x σ2 H, S x σ2 H → wipe σ2 vs = wipe τ vs
def SN (i : Nat) (τ : L2.St) (Y : γ → V → Hp → Prop) : γ → L2.St → Hp → Prop := fun x σ2 H => ∃ v, σ2 = τ.set i (some v) ∧ Y x v H
theorem g_name {τ : L2.St} {Y : γ → V → Hp → Prop} (hY : Grows Y) : GoesTo (gName i) τ [i] Y (SN i τ Y) := ⟨fun x v H R y q => q _ ⟨v, rfl, y⟩, fun x σ2 G H e ⟨v, h1, h2⟩ => ⟨v, h1, hY _ _ _ _ e h2⟩, fun x σ2 H ⟨v, h1, h2⟩ => by
  rw [h1]
  show ((τ.set i (some v)).set i none) = τ.set i none
  rw [List.set_set]⟩
def SP (m n : Nat) (τ : L2.St) (A B : γ → V → Hp → Prop) : γ → L2.St → Hp → Prop := fun x σ2 H => ∃ u w, σ2 = (τ.set m (some u)).set n (some w) ∧ A x u H ∧ B x w H
theorem wipe2' {τ : L2.St} (hmn : m ≠ n) (v u : Option V) : wipe ((τ.set m v).set n u) [m, n] = wipe τ [m, n] := by
  have e : ∀ τ : L2.St, wipe τ [m, n] = (τ.set n none).set m none := fun τ => by first | rfl | (show (τ.set m none).set n none = _; exact List.set_comm none none hmn)
  rw [e, e]
  apply List.ext_getElem?
  intro i
  simp only [List.getElem?_set, List.length_set]
  split
  · rfl
  · split <;> rfl
theorem g_two {τ : L2.St} {A B : γ → V → Hp → Prop} (hmn : m ≠ n) (hA : Grows A) (hB : Grows B) : GoesTo (gTup K 2 (gCons (gName m) (gCons (gName n) gNil))) τ [m, n] (Y2 K A B) (SP m n τ A B) :=
  ⟨fun x v H R ⟨T, u, w, h1, h2, h3, h4⟩ q => ⟨T, _, h1, h2, rfl, _, _, rfl, _, _, rfl, rfl, q _ ⟨u, w, rfl, h3, h4⟩⟩, fun x σ2 G H e ⟨u, w, h1, h2, h3⟩ => ⟨u, w, h1, hA _ _ _ _ e h2, hB _ _ _ _ e h3⟩, fun x σ2 H ⟨u, w, h1, h2, h3⟩ => by
  rw [h1]
  exact wipe2' hmn _ _⟩
theorem wipe_wipe (vs : List Nat) : wipe (wipe σ vs) vs = wipe σ vs := by
  have set_none : ∀ (ws : List Nat) (τ : L2.St) (a : Nat), wipe (τ.set a none) ws = (wipe τ ws).set a none := fun ws => by
    induction ws with
    | nil => intro τ a; rfl
    | cons b ws ih =>
      intro τ a
      show (wipe (τ.set a none) ws).set b none = ((wipe τ ws).set b none).set a none
      rw [ih]
      by_cases hab : a = b
      · subst hab
        rfl
      · exact List.set_comm none none hab
  have idem : ∀ (ws : List Nat) (τ : L2.St), wipe (wipe τ ws) ws = wipe τ ws := fun ws => by
    induction ws with
    | nil => intro τ; rfl
    | cons b ws ih =>
      intro τ
      show (wipe ((wipe τ ws).set b none) ws).set b none = (wipe τ ws).set b none
      rw [set_none, ih, List.set_set]
  exact idem vs σ
/-! ### [f(..) for .. in .. if p(..)] -/
variable {xs : List γ} {Y : γ → V → Hp → Prop} {S : γ → L2.St → Hp → Prop} {p : γ → Bool} {vs : List Nat}
theorem el_gen [Flat β] {f : γ → β} (h : EIn ti σ H xs Y) (hg : GoesTo g (wipe σ vs) vs Y S) (ht : ∀ x σ2 H2, x ∈ xs → Ex H H2 → S x σ2 H2 → ET K tt σ2 H2 (p x))
    (he : ∀ x σ2 H2, x ∈ xs → p x = true → Ex H H2 → S x σ2 H2 → ER K te σ2 H2 (f x)) (hz : xs.length ≤ 100000) : EL K (tLc ti g tt te vs) σ H ((xs.filter p).map f) := fun H0 e0 Q q => h.run H0 e0 _ fun J H1 e1 W => by
  refine fun D hD => ⟨fun j m H' => m = xs.length - j ∧ j ≤ xs.length ∧ Ex H1 H' ∧ Own K H' D (((xs.take j).filter p).map f), ⟨_, rfl, Nat.zero_le _, Evl.Ex.new hD, by simpa using Own.nil⟩, ?_⟩
  rintro j m H' ⟨rfl, hj, eH, o⟩
  by_cases hlt : j < xs.length
  · refine .inr ⟨W.go j H' hlt eH, fun H3 => Ex H1 H3 ∧ Own K H3 D (((xs.take (j + 1)).filter p).map f), fun H3 z => ⟨_, by omega, rfl, hlt, z⟩, fun v H2 hy => ?_⟩
    have hx : xs[j]? = some xs[j] := List.getElem?_eq_getElem hlt
    obtain ⟨e2, y⟩ := W.yld j xs[j] H' v H2 hx eH hy
    have hm := List.mem_of_getElem? hx
    have et : xs.take (j + 1) = xs.take j ++ [xs[j]] := by rw [List.take_succ, hx]; rfl
    refine hg.run _ v H2 _ y fun σ2 s2 => ⟨(hg.wi _ _ _ s2).trans (wipe_wipe vs), ?_⟩
    have e02 := e0.trans (e1.trans (eH.trans e2))
    refine ht _ σ2 H2 hm e02 s2 H2 (Ex.refl _) _ fun H3 e3 => ?_
    cases hp : p xs[j] with
    | false =>
      refine (if_neg Bool.false_ne_true).mpr ⟨eH.trans (e2.trans e3), ?_⟩
      rw [et, List.filter_append, List.filter_cons_of_neg (by simp [hp]), List.filter_nil, List.append_nil]
      exact o.mono (e2.trans e3)
    | true =>
      refine (if_pos rfl).mpr (he _ σ2 H3 hm hp (e02.trans e3) (hg.gr _ _ _ _ e3 s2) H3 (Ex.refl _) _ fun w H4 e4 rw' => ?_)
      obtain ⟨acc, h1, r1⟩ := (o.mono (e2.trans (e3.trans e4))).ex
      refine ⟨acc, h1, Evl.sz_lt ?_, ex_mut (eH.trans (e2.trans (e3.trans e4))) hD, acc ++ [w], upd_same, ?_⟩
      · rw [r1.len, List.length_map]
        have := List.length_filter_le p (xs.take j)
        rw [List.length_take] at this
        omega
      · rw [cut_upd, et, List.filter_append, List.filter_cons_of_pos (by simp [hp]), List.filter_nil, List.map_append]
        exact r1.append (Reps.cons (rw'.imm (Tups.cut h1)) reps_nil)
  · have : j = xs.length := by omega
    subst this
    rw [List.take_length] at o
    exact .inl ⟨W.stop H' eH, q D H' (fresh_back e1 hD) (e1.trans eH) o⟩
theorem el_genA [Flat β] {f : γ → β} (h : EIn ti σ H xs Y) (hg : GoesTo g (wipe σ vs) vs Y S)
    (he : ∀ x σ2 H2, x ∈ xs → Ex H H2 → S x σ2 H2 → ER K te σ2 H2 (f x)) (hz : xs.length ≤ 100000) : EL K (tLc ti g tYes te vs) σ H (xs.map f) := by
  have := el_gen (p := fun _ => true) (tt := tYes) h hg (fun _ _ _ _ _ _ H1 _ Q q => q H1 (Ex.refl _)) (fun x σ2 H2 a _ b c => he x σ2 H2 a b c) hz
  rwa [List.filter_eq_self.mpr (fun _ _ => rfl)] at this
/-- a value that stands without any list that stood before -/
def EF (K : PySem.W.Frag) {α : Type} [Dat α] (te : TE) (σ : L2.St) (H : Hp) (x : α) : Prop := ∀ H1, Ex H H1 → ∀ Q : VK, (∀ v H2, Ex H1 H2 → (∀ D, (∃ o, H1 D = some (.lst o)) → Rep K (Z.cut H2 D) v x) → Q v H2) → te σ H1 Q
theorem EL.ef [Flat β] {x : List β} (h : EL K te σ H x) : EF K te σ H x := fun H1 e Q q => h H1 e Q fun p H2 hp e2 o => q _ H2 e2 fun D ⟨ws, hD⟩ => (o.cut (e2 _ _ hD) fun z => by rw [z, hp] at hD; cases hD).rep
/-- .. whose items are new -/
theorem el_genF {f : γ → β} (h : EIn ti σ H xs Y) (hg : GoesTo g (wipe σ vs) vs Y S) (ht : ∀ x σ2 H2, x ∈ xs → Ex H H2 → S x σ2 H2 → ET K tt σ2 H2 (p x))
    (he : ∀ x σ2 H2, x ∈ xs → p x = true → Ex H H2 → S x σ2 H2 → EF K te σ2 H2 (f x)) (hz : xs.length ≤ 100000) : EL K (tLc ti g tt te vs) σ H ((xs.filter p).map f) := fun H0 e0 Q q => h.run H0 e0 _ fun J H1 e1 W => by
  refine fun D hD => ⟨fun j m H' => m = xs.length - j ∧ j ≤ xs.length ∧ Ex H1 H' ∧ Own K H' D (((xs.take j).filter p).map f), ⟨_, rfl, Nat.zero_le _, Evl.Ex.new hD, by simpa using Own.nil⟩, ?_⟩
  rintro j m H' ⟨rfl, hj, eH, o⟩
  by_cases hlt : j < xs.length
  · refine .inr ⟨W.go j H' hlt eH, fun H3 => Ex H1 H3 ∧ Own K H3 D (((xs.take (j + 1)).filter p).map f), fun H3 z => ⟨_, by omega, rfl, hlt, z⟩, fun v H2 hy => ?_⟩
    have hx : xs[j]? = some xs[j] := List.getElem?_eq_getElem hlt
    obtain ⟨e2, y⟩ := W.yld j xs[j] H' v H2 hx eH hy
    have hm := List.mem_of_getElem? hx
    have et : xs.take (j + 1) = xs.take j ++ [xs[j]] := by rw [List.take_succ, hx]; rfl
    refine hg.run _ v H2 _ y fun σ2 s2 => ⟨(hg.wi _ _ _ s2).trans (wipe_wipe vs), ?_⟩
    have e02 := e0.trans (e1.trans (eH.trans e2))
    refine ht _ σ2 H2 hm e02 s2 H2 (Ex.refl _) _ fun H3 e3 => ?_
    cases hp : p xs[j] with
    | false =>
      refine (if_neg Bool.false_ne_true).mpr ⟨eH.trans (e2.trans e3), ?_⟩
      rw [et, List.filter_append, List.filter_cons_of_neg (by simp [hp]), List.filter_nil, List.append_nil]
      exact o.mono (e2.trans e3)
    | true =>
      refine (if_pos rfl).mpr (he _ σ2 H3 hm hp (e02.trans e3) (hg.gr _ _ _ _ e3 s2) H3 (Ex.refl _) _ fun w H4 e4 rw' => ?_)
      obtain ⟨acc, h1, r1⟩ := (o.mono (e2.trans (e3.trans e4))).ex
      have hD3 : ∃ a3, H3 D = some (.lst a3) := (o.mono (e2.trans e3)).at
      refine ⟨acc, h1, Evl.sz_lt ?_, ex_mut (eH.trans (e2.trans (e3.trans e4))) hD, acc ++ [w], upd_same, ?_⟩
      · rw [r1.len, List.length_map]
        have := List.length_filter_le p (xs.take j)
        rw [List.length_take] at this
        omega
      · rw [cut_upd, et, List.filter_append, List.filter_cons_of_pos (by simp [hp]), List.filter_nil, List.map_append]
        exact r1.append (Reps.cons (rw' D hD3) reps_nil)
  · have : j = xs.length := by omega
    subst this
    rw [List.take_length] at o
    exact .inl ⟨W.stop H' eH, q D H' (fresh_back e1 hD) (e1.trans eH) o⟩
/-- .. whose items are new lists -/
theorem el_genL [Flat β] {f : γ → List β} (h : EIn ti σ H xs Y) (hg : GoesTo g (wipe σ vs) vs Y S) (ht : ∀ x σ2 H2, x ∈ xs → Ex H H2 → S x σ2 H2 → ET K tt σ2 H2 (p x))
    (he : ∀ x σ2 H2, x ∈ xs → p x = true → Ex H H2 → S x σ2 H2 → EL K te σ2 H2 (f x)) (hz : xs.length ≤ 100000) : EL K (tLc ti g tt te vs) σ H ((xs.filter p).map f) := el_genF h hg ht (fun x σ2 H2 a b c d => (he x σ2 H2 a b c d).ef) hz
theorem el_genLA [Flat β] {f : γ → List β} (h : EIn ti σ H xs Y) (hg : GoesTo g (wipe σ vs) vs Y S)
    (he : ∀ x σ2 H2, x ∈ xs → Ex H H2 → S x σ2 H2 → EL K te σ2 H2 (f x)) (hz : xs.length ≤ 100000) : EL K (tLc ti g tYes te vs) σ H (xs.map f) := by
  have := el_genL (p := fun _ => true) (tt := tYes) h hg (fun _ _ _ _ _ _ H1 _ Q q => q H1 (Ex.refl _)) (fun x σ2 H2 a _ b c => he x σ2 H2 a b c) hz
  rwa [List.filter_eq_self.mpr (fun _ _ => rfl)] at this
theorem el_genFA {f : γ → β} (h : EIn ti σ H xs Y) (hg : GoesTo g (wipe σ vs) vs Y S)
    (he : ∀ x σ2 H2, x ∈ xs → Ex H H2 → S x σ2 H2 → EF K te σ2 H2 (f x)) (hz : xs.length ≤ 100000) : EL K (tLc ti g tYes te vs) σ H (xs.map f) := by
  have := el_genF (p := fun _ => true) (tt := tYes) h hg (fun _ _ _ _ _ _ H1 _ Q q => q H1 (Ex.refl _)) (fun x σ2 H2 a _ b c => he x σ2 H2 a b c) hz
  rwa [List.filter_eq_self.mpr (fun _ _ => rfl)] at this
/-- the same, and the yields stay what they are while lists change -/
structure WalksT {γ : Type} (J : It) (G : Hp) (xs : List γ) (Y : γ → V → Hp → Prop) : Prop where
  go : ∀ i H, i < xs.length → Tups G H → J.go i H
  stop : ∀ H, Tups G H → J.stop xs.length H
  yld : ∀ i x H v H', xs[i]? = some x → Tups G H → J.yld i H v H' → Ex H H' ∧ Y x v H'
def GrowsT {γ : Type} (Y : γ → V → Hp → Prop) : Prop := ∀ x v G H, Tups G H → Y x v G → Y x v H
structure EInT {γ : Type} (ti : TI) (σ : L2.St) (H : Hp) (xs : List γ) (Y : γ → V → Hp → Prop) : Prop where
  run : ∀ H1, Ex H H1 → ∀ R : It → Hp → Prop, (∀ J H2, Ex H1 H2 → WalksT J H2 xs Y → R J H2) → ti σ H1 R
theorem grT_rep [Flat α] : GrowsT fun (x : α) v H => Rep K H v x := fun _ _ _ _ e r => r.imm e
theorem in_tupT [Flat α] {xs : Tp α} (h : ER K tl σ H xs) : EInT (iTup K tl) σ H (show List α from xs) fun x v H => Rep K H v x := ⟨fun H1 e R q => h H1 e _ fun v H2 e2 r => by
  obtain ⟨a, vs, rfl, s, r⟩ := Rep.tupP r
  refine ⟨a, rfl, ⟨vs, SqT.of s⟩, q _ H2 e2 ⟨fun i H hi e => ?_, fun H e => ⟨vs, SqT.of (e _ _ s), by rw [r.len]; exact Nat.le_refl _⟩, fun i x H v H' hx e y => ?_⟩⟩
  · have hi : i < List.length xs := hi
    exact ⟨vs, vs[i]'(by rw [r.len]; exact hi), SqT.of (e _ _ s), by simp [r.len, hi]⟩
  · obtain ⟨rfl, hy⟩ := y
    obtain ⟨v', hv', rv⟩ := r.get hx
    have := hy vs (SqT.of (e _ _ s))
    rw [hv'] at this
    cases this
    exact ⟨Ex.refl _, rv.imm e⟩⟩
/-- [f(x, y) for x in xs for y in ys(x)] -/
theorem el_gen2 [Flat β] {xs : List γ} {ys : γ → List δ} {Y : γ → V → Hp → Prop} {Y1 : δ → V → Hp → Prop} {f : γ → δ → β} (h : EIn ti σ H xs Y) (hY : GrowsT Y)
    (h1 : ∀ x v H2, x ∈ xs → Ex H H2 → Y x v H2 → EInT ti1 ((wipe σ [i, k]).set i (some v)) H2 (ys x) Y1)
    (he : ∀ x v y u H2, x ∈ xs → y ∈ ys x → Ex H H2 → Y x v H2 → Y1 y u H2 → ER K te ((wipe ((wipe σ [i, k]).set i (some v)) [k]).set k (some u)) H2 (f x y)) (hik : i ≠ k)
    (hz : (xs.flatMap fun x => (ys x).map (f x)).length ≤ 100000) : EL K (tLc2 ti (gName i) tYes ti1 (gName k) tYes te [i, k] [k]) σ H (xs.flatMap fun x => (ys x).map (f x)) := fun H0 e0 Q q => h.run H0 e0 _ fun J H1 e1 W => by
  have hle : ∀ j a x, xs[j]? = some x → (((xs.take j).flatMap fun x => (ys x).map (f x)) ++ ((ys x).take a).map (f x)).length ≤ (xs.flatMap fun x => (ys x).map (f x)).length := fun j a x hx => by
    have e : xs = xs.take j ++ xs.drop j := (List.take_append_drop j xs).symm
    conv => rhs; rw [e, List.flatMap_append]
    rw [List.length_append, List.length_append]
    refine Nat.add_le_add_left ?_ _
    have hl := (List.getElem?_eq_some_iff.mp hx).1
    have : xs.drop j = x :: xs.drop (j + 1) := by
      rw [List.drop_eq_getElem_cons hl, (List.getElem?_eq_some_iff.mp hx).2]
    rw [this, List.flatMap_cons, List.length_append, List.length_map, List.length_map, List.length_take]
    omega
  have hw1 : ∀ v, wipe ((wipe σ [i, k]).set i (some v)) [i, k] = wipe σ [i, k] := fun v => by
    have := wipe2' (τ := wipe σ [i, k]) hik (some v) none
    have e : ((wipe σ [i, k]).set i (some v)).set k none = (wipe σ [i, k]).set i (some v) := by
      show ((((σ.set k none).set i none).set i (some v)).set k none) = ((σ.set k none).set i none).set i (some v)
      rw [List.set_set, List.set_comm (some v) none hik, List.set_set]
    rw [e] at this
    rw [this]
    exact wipe_wipe _
  refine fun D hD => ⟨fun j m H' => m = xs.length - j ∧ j ≤ xs.length ∧ Ex H1 H' ∧ Own K H' D ((xs.take j).flatMap fun x => (ys x).map (f x)), ⟨_, rfl, Nat.zero_le _, Evl.Ex.new hD, by simpa using Own.nil⟩, ?_⟩
  rintro j m H' ⟨rfl, hj, eH, o⟩
  by_cases hlt : j < xs.length
  · obtain ⟨x, hx⟩ : ∃ x, xs[j]? = some x := ⟨_, List.getElem?_eq_getElem hlt⟩
    refine .inr ⟨W.go j H' hlt eH, fun H3 => Ex H1 H3 ∧ Own K H3 D ((xs.take (j + 1)).flatMap fun x => (ys x).map (f x)), fun H3 z => ⟨_, by omega, rfl, hlt, z⟩, fun v H2 hy => ?_⟩
    obtain ⟨e2, y⟩ := W.yld j x H' v H2 hx eH hy
    have hm := List.mem_of_getElem? hx
    have et : xs.take (j + 1) = xs.take j ++ [x] := by rw [List.take_succ, hx]; rfl
    refine ⟨hw1 v, ?_⟩
    have e02 := e0.trans (e1.trans (eH.trans e2))
    refine (h1 x v H2 hm e02 y).run H2 (Ex.refl _) _ fun J1 H4 e4 W1 => ?_
    refine ⟨fun a b H5 => b = (ys x).length - a ∧ a ≤ (ys x).length ∧ Ex H1 H5 ∧ Tups H4 H5 ∧ Own K H5 D (((xs.take j).flatMap fun x => (ys x).map (f x)) ++ ((ys x).take a).map (f x)), ⟨_, rfl, Nat.zero_le _, eH.trans (e2.trans e4), fun _ _ z => z, by simpa using o.mono (e2.trans e4)⟩, ?_⟩
    rintro a b H5 ⟨rfl, ha, e5, t5, o5⟩
    by_cases hlt1 : a < (ys x).length
    · obtain ⟨z, hx1⟩ : ∃ z, (ys x)[a]? = some z := ⟨_, List.getElem?_eq_getElem hlt1⟩
      refine .inr ⟨W1.go a H5 hlt1 t5, fun H6 => Ex H1 H6 ∧ Tups H4 H6 ∧ Own K H6 D (((xs.take j).flatMap fun x => (ys x).map (f x)) ++ ((ys x).take (a + 1)).map (f x)), fun H6 z => ⟨_, by omega, rfl, hlt1, z⟩, fun u H6 hy1 => ?_⟩
      obtain ⟨e6, y1⟩ := W1.yld a z H5 u H6 hx1 t5 hy1
      have hm1 := List.mem_of_getElem? hx1
      have et1 : (ys x).take (a + 1) = (ys x).take a ++ [z] := by rw [List.take_succ, hx1]; rfl
      refine ⟨wipe1 _, ?_⟩
      refine he x v z u H6 hm hm1 (e0.trans (e1.trans (e5.trans e6))) (hY _ _ _ _ ((Tups.ex e4).trans (t5.trans (Tups.ex e6))) y) y1 H6 (Ex.refl _) _ fun w H7 e7 rw' => ?_
      obtain ⟨acc, g1, r1⟩ := (o5.mono (e6.trans e7)).ex
      have hlen := hle j (a + 1) x hx
      rw [et1, List.map_append, ← List.append_assoc, List.length_append] at hlen
      refine ⟨acc, g1, Evl.sz_lt ?_, ex_mut (e5.trans (e6.trans e7)) hD, t5.trans ((Tups.ex (e6.trans e7)).trans (Tups.upd g1)), acc ++ [w], upd_same, ?_⟩
      · rw [r1.len]
        simp only [List.map_cons, List.map_nil, List.length_singleton] at hlen
        omega
      · rw [cut_upd, et1, List.map_append, ← List.append_assoc]
        exact r1.append (Reps.cons (rw'.imm (Tups.cut g1)) reps_nil)
    · have : a = (ys x).length := by omega
      subst this
      rw [List.take_length] at o5
      refine .inl ⟨W1.stop H5 t5, e5, ?_⟩
      rw [et, List.flatMap_append]
      simpa using o5
  · have : j = xs.length := by omega
    subst this
    rw [List.take_length] at o
    exact .inl ⟨W.stop H' eH, q D H' (fresh_back e1 hD) (e1.trans eH) o⟩
end
end Z
set_option Elab.async false
set_option linter.all false
set_option maxRecDepth 100000
set_option maxHeartbeats 4000000
set_option autoImplicit false
/-! Z: texts, chains of comparisons, heaps without a list, objects in tuples. -/
namespace Z
open PySem L2
open Evl (Ex)
open Dat
section
variable {K : PySem.W.Frag} {α β : Type} [Dat α] [Dat β] {σ : L2.St} {G H : Hp} {te ta tb tc : TE} {i j k : Int}
theorem er_lenS {z : Str} (h : ER K ta σ H z) (hz : z.length ≤ sizeLine) : ER K (tCB (fun xs H Q => ∃ z, xs = [.str z] ∧ z.length ≤ sizeLine ∧ Q (.int z.length) H) (tCons ta tNil)) σ H (z.length : Int) := fun H1 e Q q => h.evS H1 e _ fun H2 e2 =>
  ⟨z, rfl, hz, q _ H2 e2 (rep_int _)⟩
theorem er_inS {c : Nat} {z : Str} (h : ER K ta σ H (⟨#[c]⟩ : Str)) (h' : ER K tb σ H z) : ER K (tOp (fun x y H Q => ∃ (c : Nat) (z : Str), x = .str ⟨#[c]⟩ ∧ y = .str z ∧ Q (.bl (decide (c ∈ z.cps.toList))) H) ta tb) σ H (decide (c ∈ z.cps.toList)) := fun H1 e Q q =>
  h.evS H1 e _ fun H2 e2 => h'.evS H2 (e.trans e2) _ fun H3 e3 => ⟨c, z, rfl, rfl, q _ H3 (e2.trans e3) (rep_bool _)⟩
theorem er_ixS {c : Nat} {z : Str} (h : ER K ta σ H z) (h' : ER K tb σ H i) (hz : z.length ≤ sizeLine) (hc : atI z.cps.toList i = some c) : ER K (tOp rIxS ta tb) σ H (⟨#[c]⟩ : Str) := fun H1 e Q q =>
  h.evS H1 e _ fun H2 e2 => h'.evI H2 (e.trans e2) _ fun H3 e3 => ⟨z, i, c, rfl, rfl, hz, hc, q _ H3 (e2.trans e3) (rep_str _)⟩
theorem er_chainI {f g : Int → Int → Bool} (ha : ER K ta σ H i) (hb : ER K tb σ H j) (hc : ER K tc σ H k) : ER K (tChain (rI0 fun a b => .bl (f a b)) (rI0 fun a b => .bl (g a b)) ta tb tc) σ H (f i j && g j k) := fun H1 e Q q =>
  ha.evI H1 e _ fun H2 e2 => hb.evI H2 (e.trans e2) _ fun H3 e3 => ⟨i, j, rfl, rfl, f i j, rfl, by
    cases hf : f i j with
    | false => exact q _ H3 (e2.trans e3) (by rw [hf]; exact rep_bool false)
    | true => exact hc.evI H3 (e.trans (e2.trans e3)) _ fun H4 e4 => ⟨j, k, rfl, rfl, q _ H4 (e2.trans (e3.trans e4)) (by rw [hf]; exact rep_bool (g j k))⟩⟩
/-- len(set(t)), t's ints different -/
theorem er_lenSetT {xs : Tp Int} (h : ER K ta σ H xs) (hz : List.length xs < 1000) (hn : List.Nodup (α := Int) xs) : ER K (tLenSetT K ta) σ H (List.length xs : Int) := fun H1 e Q q => h H1 e _ fun v H2 e2 r => by
  obtain ⟨a, vs, rfl, s, r⟩ := Rep.tup r
  obtain rfl := Reps.ints r
  exact ⟨a, xs, rfl, s, hz, hn, q _ H2 e2 (rep_int _)⟩
/-- return (e, l): a pair of a datum and a list -/
theorem s_retP {x : α} [Flat α] {ys : List β} [Flat β] {D : Ends} {n : Nat} {p : Addr} (h : ER K ta σ H x) (hσ : σ[n]? = some (some (.ref p))) (o : Own K H p ys)
    (k : ∀ v H', Ex H H' → Rep K H' v (x, ys) → (∀ q, (∃ ws, H' q = some (.lst ws)) → q ≠ p → Rep K (Z.cut H' q) v (x, ys)) → D.rt v H') : tRet (tTup (tCons ta (tCons (tVar n) tNil))) D σ H :=
  h H (Ex.refl H) _ fun v H1 e1 r => ⟨_, hσ, Evl.sz_of (by show 2 ≤ 100000; decide), fun l hl => by
    have e2 := Evl.Ex.new (o := .tup [v, .ref p]) hl
    have o2 := (o.mono e1).mono e2
    have r2 := r.mono e2
    refine k _ _ (e1.trans e2) (rep_pair upd_same r2 o2.rep) fun q ⟨ws, hq⟩ hqp => ?_
    have hl2 : (L2.upd H1 l (.tup [v, .ref p])) l = some (.tup [v, .ref p]) := upd_same
    have hql : q ≠ l := fun z => by rw [z, hl2] at hq; cases hq
    exact rep_pair (by rw [cut_ne (Ne.symm hql)]; exact hl2) (r2.imm (Tups.cut hq)) (o2.cut hq hqp).rep⟩
/-- a heap without what stands at p is kept by what keeps all that knows nothing of p -/
theorem ex_cut {p : Addr} (e : Ex G H) (h : G p = none) : Ex G (Z.cut H p) := fun b o z => by
  rw [cut_ne (fun w => by rw [w, h] at z; cases z)]
  exact e b o z
end
end Z
set_option Elab.async false
set_option linter.all false
set_option maxRecDepth 100000
set_option maxHeartbeats 4000000
set_option autoImplicit false
/-! Z: readings that tell of a value only what it keeps. -/
namespace Z
open PySem L2
open Evl (Ex)
open Dat
/-- a new list of which P holds -/
def LP (K : PySem.W.Frag) {α : Type} [Dat α] (te : TE) (σ : L2.St) (H : Hp) (P : List α → Prop) : Prop := ∀ H1, Ex H H1 → ∀ Q : VK, (∀ p H2 xs, H1 p = none → Ex H1 H2 → Own K H2 p xs → P xs → Q (.ref p) H2) → te σ H1 Q
/-- a value of which P holds, that stands without any list that stood before -/
def RF (K : PySem.W.Frag) {α : Type} [Dat α] (te : TE) (σ : L2.St) (H : Hp) (P : α → Prop) : Prop := ∀ H1, Ex H H1 → ∀ Q : VK, (∀ v H2 x, Ex H1 H2 → (∀ D, (∃ o, H1 D = some (.lst o)) → Rep K (Z.cut H2 D) v x) → P x → Q v H2) → te σ H1 Q
section
variable (K : PySem.W.Frag) {α β γ δ ε : Type} [Dat α] [Dat β] [Dat γ] [Dat δ] [Dat ε]
def sp4 (pre : α → β → γ → δ → Prop) (m : α → β → γ → δ → ε) : Sp := fun vs H Q _ => ∃ v u t s x y z a, vs = [v, u, t, s] ∧ Rep K H v x ∧ Rep K H u y ∧ Rep K H t z ∧ Rep K H s a ∧ pre x y z a ∧ ∀ w H', Ex H H' → Rep K H' w (m x y z a) → Q w H'
variable {K}
theorem len4 {pre : α → β → γ → δ → Prop} {m : α → β → γ → δ → ε} {s1 s2 s3 s4 : Str} : ∀ vs H Q E, sp4 K pre m vs H Q E → vs.length = [s1, s2, s3, s4].length := fun vs H Q E h => by
  obtain ⟨v, u, t, s, x, y, z, a, rfl, _⟩ := h
  rfl
variable {σ : L2.St} {H : Hp} {ta tb tc td : TE} {E : XK}
theorem er_c4 {pre : α → β → γ → δ → Prop} {m : α → β → γ → δ → ε} {x : α} {y : β} {z : γ} {a : δ} (h : ER K ta σ H x) (h2 : ER K tb σ H y) (h3 : ER K tc σ H z) (h4 : ER K td σ H a) (hp : pre x y z a) :
    ER K (tCall (sp4 K pre m) [] E (tCons ta (tCons tb (tCons tc (tCons td tNil))))) σ H (m x y z a) := fun H1 e Q q =>
  h H1 e _ fun v H2 e2 r => h2 H2 (e.trans e2) _ fun u H3 e3 r2 => h3 H3 ((e.trans e2).trans e3) _ fun t H4 e4 r3 => h4 H4 (((e.trans e2).trans e3).trans e4) _ fun s H5 e5 r4 =>
    ⟨v, u, t, s, x, y, z, a, rfl, r.mono (e3.trans (e4.trans e5)), r2.mono (e4.trans e5), r3.mono e5, r4, hp, fun w H6 e6 s => q w H6 ((((e2.trans e3).trans e4).trans e5).trans e6) s⟩
end
section
variable {K : PySem.W.Frag} {α β γ : Type} [Dat α] [Dat β] {σ : L2.St} {G H : Hp} {te : TE} {ti : TI} {g : TG} {i : Nat} {u : TS} {D : Ends}
theorem q_setLP {P : List α → Prop} (h : LP K te σ H P) (k : ∀ p H' xs, H p = none → Ex H H' → Own K H' p xs → P xs → u D (σ.set i (some (.ref p))) H') : tSeq (tAsg te (gName i)) u D σ H := h H (Ex.refl H) _ k
theorem s_retLP {P : List α → Prop} (h : LP K te σ H P) (k : ∀ p H' xs, H p = none → Ex H H' → Own K H' p xs → P xs → D.rt (.ref p) H') : tRet te D σ H := h H (Ex.refl H) _ k
theorem LP.mono {P : List α → Prop} (e : Ex G H) (h : LP K te σ G P) : LP K te σ H P := fun H1 a Q q => h H1 (e.trans a) Q q
variable {xs : List γ} {Y : γ → V → Hp → Prop} {S : γ → L2.St → Hp → Prop} {vs : List Nat}
theorem el_genR {P : β → Prop} (h : EIn ti σ H xs Y) (hg : GoesTo g (wipe σ vs) vs Y S) (he : ∀ x σ2 H2, x ∈ xs → Ex H H2 → S x σ2 H2 → RF K te σ2 H2 P) (hz : xs.length ≤ 100000) :
    LP K (tLc ti g tYes te vs) σ H fun rs : List β => rs.length = xs.length ∧ ∀ r, r ∈ rs → P r := fun H0 e0 Q q => h.run H0 e0 _ fun J H1 e1 W => by
  refine fun D hD => ⟨fun j m H' => m = xs.length - j ∧ j ≤ xs.length ∧ Ex H1 H' ∧ ∃ rs : List β, rs.length = j ∧ (∀ r, r ∈ rs → P r) ∧ Own K H' D rs, ⟨_, rfl, Nat.zero_le _, Evl.Ex.new hD, [], rfl, fun r hr => absurd hr (by simp), Own.nil⟩, ?_⟩
  rintro j m H' ⟨rfl, hj, eH, rs, hl, hP, o⟩
  by_cases hlt : j < xs.length
  · refine .inr ⟨W.go j H' hlt eH, fun H3 => Ex H1 H3 ∧ ∃ rs : List β, rs.length = j + 1 ∧ (∀ r, r ∈ rs → P r) ∧ Own K H3 D rs, fun H3 z => ⟨_, by omega, rfl, hlt, z⟩, fun v H2 hy => ?_⟩
    have hx : xs[j]? = some xs[j] := List.getElem?_eq_getElem hlt
    obtain ⟨e2, y⟩ := W.yld j xs[j] H' v H2 hx eH hy
    refine hg.run _ v H2 _ y fun σ2 s2 => ⟨(hg.wi _ _ _ s2).trans (wipe_wipe vs), ?_⟩
    refine he _ σ2 H2 (List.mem_of_getElem? hx) (e0.trans (e1.trans (eH.trans e2))) s2 H2 (Ex.refl _) _ fun w H4 x e4 rw' hPx => ?_
    obtain ⟨acc, h1, r1⟩ := (o.mono (e2.trans e4)).ex
    refine ⟨acc, h1, Evl.sz_lt (by rw [r1.len]; omega), ex_mut (eH.trans (e2.trans e4)) hD, rs ++ [x], by rw [List.length_append, hl]; rfl, fun r hr => ?_, acc ++ [w], upd_same, ?_⟩
    · rcases List.mem_append.mp hr with hr | hr
      · exact hP r hr
      · rw [List.mem_singleton.mp hr]; exact hPx
    · rw [cut_upd]
      exact r1.append (Reps.cons (rw' D (o.mono e2).at) reps_nil)
  · have : j = xs.length := by omega
    subst this
    exact .inl ⟨W.stop H' eH, q D H' rs (fresh_back e1 hD) (e1.trans eH) o ⟨hl, hP⟩⟩
end
end Z
namespace Z
open PySem L2
open Evl (Ex)
open Dat
section
variable {K : PySem.W.Frag} {α β : Type} [Dat α] [Dat β] {σ : L2.St} {G H : Hp} {ta tb td ty tv : TE} {u : TS} {D : Ends} {i m n : Nat}
theorem q_dnewK (k : ∀ p H', H p = none → Ex H H' → H' p = some (.dK []) → u D (σ.set i (some (.ref p))) H') : tSeq (tAsg tDNewK (gName i)) u D σ H := fun p hp => k p _ hp (Evl.Ex.new hp) upd_same
/-- x = d.setdefault(k, v), k not there -/
theorem q_setdN {d : Addr} {kvs : List (Key × V)} {nm : Str} {v : V} (hd : EV K td σ H (.ref d)) (hk : ∀ H1, Ex H H1 → EV K ty σ H1 (.str nm)) (hv : ∀ H1, Ex H H1 → EV K tv σ H1 v) (h : H d = some (.dK kvs)) (hl : kvs.length < 100000) (hn : valV kvs (Sum.inr nm) = none)
    (k : ∀ H', (∀ G, Ex G H → G d = none → Ex G H') → Tups H H' → H' d = some (.dK (putK kvs (Sum.inr nm) v)) → u D (σ.set i (some v)) H') : tSeq (tAsg (tDSetd td ty tv) (gName i)) u D σ H :=
  hd H (Ex.refl H) _ fun H1 e1 => ⟨d, rfl, .inl ⟨_, .inl (e1 _ _ h)⟩, hk H1 e1 H1 (Ex.refl _) _ fun H2 e2 => hv H2 (e1.trans e2) H2 (Ex.refl _) _ fun H3 e3 => by
    have e := e1.trans (e2.trans e3)
    have h3 := e _ _ h
    refine ⟨kvs, Sum.inr nm, h3, rfl, Evl.sz_lt hl, fun w hw => absurd (hn.symm.trans hw) (fun z => by cases z), fun _ => k _ (fun G eG hG => ex_mut (eG.trans e) hG) (fun a ys z => ?_) upd_same⟩
    have z3 := e _ _ z
    rw [upd_ne (fun y => by rw [y, h3] at z3; cases z3)]
    exact z3⟩
/-- a, b = p, p a pair -/
theorem g_pairR {x : α × β} {v : V} {Q : L2.St → Hp → Prop} (r : Rep K H v x) (q : ∀ u w, Rep K H u x.1 → Rep K H w x.2 → Q ((σ.set m (some u)).set n (some w)) H) : gTup K 2 (gCons (gName m) (gCons (gName n) gNil)) v σ H Q := by
  obtain ⟨p, u, w, rfl, s, r1, r2⟩ := Rep.pair r
  exact ⟨p, _, rfl, s, rfl, _, _, rfl, _, _, rfl, rfl, q u w r1 r2⟩
/-- tuple(t), t a tuple -/
theorem er_tupleT {xs : Tp α} (ha : ER K ta σ H xs) : ER K (tCB (fun xs H Q => ∃ p ys, xs = [.ref p] ∧ ((SqL K H p ys ∧ ∀ l, H l = none → Q (.ref l) (upd H l (.tup ys))) ∨ (SqT K H p ys ∧ Q (.ref p) H))) (tCons ta tNil)) σ H xs := fun H1 e Q q =>
  ha H1 e _ fun v H2 e2 r => by
    obtain ⟨a, vs, rfl, s, r'⟩ := Rep.tup r
    exact ⟨a, vs, rfl, .inr ⟨s, q _ _ e2 r⟩⟩
/-- x in t, t a tuple of ints -/
theorem er_inIT {x : Int} {xs : Tp Int} (ha : ER K ta σ H x) (hb : ER K tb σ H xs) : ER K (tOp (rIn K false) ta tb) σ H (decide (x ∈ (show List Int from xs))) := fun H1 e Q q => ha.evI H1 e _ fun H2 e2 => hb H2 (e.trans e2) _ fun w H3 e3 r => by
  obtain ⟨p, vs, rfl, s, r⟩ := Rep.tup r
  obtain rfl := Reps.ints r
  refine ⟨p, _, rfl, .inr s, rfl, flat_ints xs, ?_⟩
  show Q (.bl (inV _ _)) H3
  rw [show inV (.int x) (List.map V.int xs) = decide (x ∈ (show List Int from xs)) from inV_ints x xs]
  exact q _ H3 (e2.trans e3) (rep_bool _)
end
end Z
namespace Z
open PySem L2
open Evl (Ex)
open Dat
section
variable {K : PySem.W.Frag} {α β : Type} [Dat α] [Dat β] {σ : L2.St} {G H : Hp} {te ta tb : TE} {u : TS} {D : Ends} {i m n : Nat}
theorem er_eqS {i j : Str} (ha : ER K ta σ H i) (hb : ER K tb σ H j) : ER K (tOp rEq ta tb) σ H (decide (i = j)) := fun H1 e Q q =>
  ha.evS H1 e _ fun H2 e2 => hb.evS H2 (e.trans e2) _ fun H3 e3 => ⟨rfl, by
    have : decide (V.str i = V.str j) = decide (i = j) := by simp
    rw [this]; exact q _ H3 (e2.trans e3) (rep_bool _)⟩
/-- l.append(e), of e only P is told -/
theorem s_appR {P : α → Hp → Prop} {l : Nat} {p : Addr} {xs : List α} (hl : σ[l]? = some (some (.ref p))) (ho : Own K H p xs) [Flat α] (h : ∀ Q : VK, (∀ v H1 x, Ex H H1 → Rep K H1 v x → P x H1 → Q v H1) → te σ H Q) (hz : xs.length < 100000)
    (k : ∀ H1 x H', Ex H H1 → P x H1 → (∀ G, Ex G H1 → G p = none → Ex G H') → Own K H' p (xs ++ [x]) → D.nx σ H') :
    tDrop (tBM K "list" rAppend (tVar l) (tCons te tNil)) D σ H := by
  obtain ⟨vs, h1, r1⟩ := ho.ex
  refine ⟨_, hl, .inl ⟨rfl, _, SqL.of h1⟩, h _ fun v H1 x e1 r hP => ?_⟩
  obtain ⟨ws, h2, r2⟩ := (ho.mono e1).ex
  have ew : ws = vs := by
    have := e1 _ _ h1
    rw [this] at h2
    cases h2; rfl
  subst ew
  refine ⟨p, ws, v, rfl, rfl, h2, Evl.sz_lt (by rw [r2.len]; exact hz), k H1 x _ e1 hP (fun G eG hG => ex_mut eG hG) ⟨_, upd_same, ?_⟩⟩
  rw [cut_upd]
  exact Reps.append r2 (Reps.cons (r.imm (Tups.cut h2)) reps_nil)
theorem cut_m1 {α : Type} {xs : List α} : (cutD xs none (some (-1))) = xs.take (xs.length - 1) := by
  unfold cutD
  rw [HT.sIx_none, List.drop_zero, Nat.sub_zero]
  congr 1
  have e : HT.sIx xs.length xs.length (some (-1)) = ((-1 : Int) + (xs.length : Int)).toNat := by simp [HT.sIx]
  rw [e]
  omega
end
end Z
set_option Elab.async false
set_option linter.all false
set_option maxRecDepth 100000
set_option maxHeartbeats 4000000
set_option autoImplicit false
namespace Y
open PySem L2 Z
def top (i : Nat) : Stmt := PySem.Challenge.pw_everystepstands_k93_any_order_of_letters.main.body.getD i (.Pass ⟨0, 0, 0, 0⟩)
abbrev s_wall : Stmt := top 0
abbrev s_is_binary : Stmt := top 2
abbrev s_flipped : Stmt := top 3
abbrev s_all_binary : Stmt := top 4
abbrev s_is_name : Stmt := top 5
abbrev s_BadKindw_initw : Stmt := inClass (top 8) 0
abbrev s_BadRulew_initw : Stmt := inClass (top 9) 0
abbrev s_NotAnAnswerw_initw : Stmt := inClass (top 10) 0
abbrev s_TooManyw_initw : Stmt := inClass (top 11) 0
abbrev s_Worldw_initw : Stmt := inClass (top 13) 0
abbrev s_World_is_answer : Stmt := inClass (top 13) 1
abbrev s_World_is_change : Stmt := inClass (top 13) 2
abbrev s_World_next_answers : Stmt := inClass (top 13) 3
abbrev s_World_blocked : Stmt := inClass (top 13) 4
abbrev s_check_answer : Stmt := top 14
abbrev s_any_order : Stmt := top 17
abbrev s_Kindw_initw : Stmt := inClass (top 20) 0
abbrev s_Kindw_containsw : Stmt := inClass (top 20) 1
abbrev s_Kindw_andw : Stmt := inClass (top 20) 2
abbrev s_Kindw_orw : Stmt := inClass (top 20) 3
abbrev s_Kindw_invertw : Stmt := inClass (top 20) 4
abbrev s_Kind_named : Stmt := inClass (top 20) 5
abbrev s_Kind_turned : Stmt := inClass (top 20) 6
abbrev s_Kind_fixed : Stmt := inClass (top 20) 7
abbrev s_Kind_pieces : Stmt := inClass (top 20) 8
abbrev s_Kind_piece_of : Stmt := inClass (top 20) 9
abbrev s_Kind_clause : Stmt := inClass (top 20) 10
abbrev s_Kind_parity : Stmt := inClass (top 20) 11
abbrev s_Kind_alike : Stmt := inClass (top 20) 12
abbrev s_check_width : Stmt := top 21
abbrev s_piece_around : Stmt := top 22
abbrev s_grouped_by_piece : Stmt := top 23
abbrev s_Rulesw_initw : Stmt := inClass (top 25) 2
abbrev s_Rules_is_answer : Stmt := inClass (top 25) 3
abbrev s_Rules_is_change : Stmt := inClass (top 25) 4
abbrev s_Rules_next_answers : Stmt := inClass (top 25) 5
abbrev s_Rules_blocked : Stmt := inClass (top 25) 6
abbrev s_Rules_bars : Stmt := inClass (top 25) 7
abbrev s_Rules_at_rule : Stmt := inClass (top 25) 8
abbrev s_Rules_keeps : Stmt := inClass (top 25) 9
abbrev s_Rules_broken : Stmt := inClass (top 25) 10
abbrev s_Rules_kinds : Stmt := inClass (top 25) 11
abbrev s_Rules_with_rule : Stmt := inClass (top 25) 12
abbrev s_Rules_without_rule : Stmt := inClass (top 25) 13
abbrev s_Rules_turned : Stmt := inClass (top 25) 14
abbrev s_Rules_renamed : Stmt := inClass (top 25) 15
abbrev s_Rules_joined : Stmt := inClass (top 25) 16
abbrev s_Rules_all_answers : Stmt := inClass (top 25) 17
abbrev s_are_letters : Stmt := top 26
abbrev s_law_cell : Stmt := top 28
abbrev s_law_draw : Stmt := top 29
abbrev s_law_tuples : Stmt := top 30
abbrev s_law_picked : Stmt := top 31
abbrev s_law_some : Stmt := top 32
abbrev s_law_values : Stmt := top 33
abbrev s_law_shown : Stmt := top 34
abbrev s_law_rule : Stmt := top 35
abbrev s_law_keeps : Stmt := top 36
abbrev s_law_due : Stmt := top 37
abbrev s_law_world : Stmt := top 38
abbrev s_law_told : Stmt := top 39
abbrev s_law_refused : Stmt := top 40
abbrev s_law_wrong_settings : Stmt := top 41
abbrev s_law : Stmt := top 42
abbrev N_wall : List Str := ["k"]
theorem sc_wall : FnScope N_wall ["k"] (defScope s_wall) := ⟨rfl, rfl, rfl, by decide +kernel, rfl, by decide +kernel, by decide +kernel⟩
abbrev N_is_binary : List Str := ["setting", "size", "value"]
theorem sc_is_binary : FnScope N_is_binary ["setting", "size"] (defScope s_is_binary) := ⟨rfl, rfl, rfl, by decide +kernel, rfl, by decide +kernel, by decide +kernel⟩
abbrev N_flipped : List Str := ["setting", "positions", "values", "position"]
theorem sc_flipped : FnScope N_flipped ["setting", "positions"] (defScope s_flipped) := ⟨rfl, rfl, rfl, by decide +kernel, rfl, by decide +kernel, by decide +kernel⟩
abbrev N_all_binary : List Str := ["size", "rows", "_", "row", "value"]
theorem sc_all_binary : FnScope N_all_binary ["size"] (defScope s_all_binary) := ⟨rfl, rfl, rfl, by decide +kernel, rfl, by decide +kernel, by decide +kernel⟩
abbrev N_is_name : List Str := ["text", "char"]
theorem sc_is_name : FnScope N_is_name ["text"] (defScope s_is_name) := ⟨rfl, rfl, rfl, by decide +kernel, rfl, by decide +kernel, by decide +kernel⟩
abbrev N_BadKindw_initw : List Str := ["self", "index"]
theorem sc_BadKindw_initw : FnScopeS N_BadKindw_initw ["self", "index"] (defScope s_BadKindw_initw) := ⟨rfl, rfl, rfl, by decide +kernel, rfl, by decide +kernel, by decide +kernel, by decide +kernel, rfl, rfl⟩
abbrev N_BadRulew_initw : List Str := ["self", "index"]
theorem sc_BadRulew_initw : FnScopeS N_BadRulew_initw ["self", "index"] (defScope s_BadRulew_initw) := ⟨rfl, rfl, rfl, by decide +kernel, rfl, by decide +kernel, by decide +kernel, by decide +kernel, rfl, rfl⟩
abbrev N_NotAnAnswerw_initw : List Str := ["self", "setting"]
theorem sc_NotAnAnswerw_initw : FnScopeS N_NotAnAnswerw_initw ["self", "setting"] (defScope s_NotAnAnswerw_initw) := ⟨rfl, rfl, rfl, by decide +kernel, rfl, by decide +kernel, by decide +kernel, by decide +kernel, rfl, rfl⟩
abbrev N_TooManyw_initw : List Str := ["self", "limit"]
theorem sc_TooManyw_initw : FnScopeS N_TooManyw_initw ["self", "limit"] (defScope s_TooManyw_initw) := ⟨rfl, rfl, rfl, by decide +kernel, rfl, by decide +kernel, by decide +kernel, by decide +kernel, rfl, rfl⟩
abbrev N_Worldw_initw : List Str := ["self", "size"]
theorem sc_Worldw_initw : FnScope N_Worldw_initw ["self", "size"] (defScope s_Worldw_initw) := ⟨rfl, rfl, rfl, by decide +kernel, rfl, by decide +kernel, by decide +kernel⟩
abbrev N_World_is_answer : List Str := ["self", "setting"]
theorem sc_World_is_answer : FnScope N_World_is_answer ["self", "setting"] (defScope s_World_is_answer) := ⟨rfl, rfl, rfl, by decide +kernel, rfl, by decide +kernel, by decide +kernel⟩
abbrev N_World_is_change : List Str := ["self", "first", "second"]
theorem sc_World_is_change : FnScope N_World_is_change ["self", "first", "second"] (defScope s_World_is_change) := ⟨rfl, rfl, rfl, by decide +kernel, rfl, by decide +kernel, by decide +kernel⟩
abbrev N_World_next_answers : List Str := ["self", "setting"]
theorem sc_World_next_answers : FnScope N_World_next_answers ["self", "setting"] (defScope s_World_next_answers) := ⟨rfl, rfl, rfl, by decide +kernel, rfl, by decide +kernel, by decide +kernel⟩
abbrev N_World_blocked : List Str := ["self", "setting", "parts", "part"]
theorem sc_World_blocked : FnScope N_World_blocked ["self", "setting", "parts", "part"] (defScope s_World_blocked) := ⟨rfl, rfl, rfl, by decide +kernel, rfl, by decide +kernel, by decide +kernel⟩
abbrev N_check_answer : List Str := ["world", "setting"]
theorem sc_check_answer : FnScope N_check_answer ["world", "setting"] (defScope s_check_answer) := ⟨rfl, rfl, rfl, by decide +kernel, rfl, by decide +kernel, by decide +kernel⟩
abbrev N_any_order : List Str := ["rules", "setting", "letters", "choices", "chosen", "letter", "choice"]
theorem sc_any_order : FnScope N_any_order ["rules", "setting", "letters"] (defScope s_any_order) := ⟨rfl, rfl, rfl, by decide +kernel, rfl, by decide +kernel, by decide +kernel⟩
abbrev N_Kindw_initw : List Str := ["self", "name", "width", "tuples", "known", "index", "values"]
theorem sc_Kindw_initw : FnScope N_Kindw_initw ["self", "name", "width", "tuples"] (defScope s_Kindw_initw) := ⟨rfl, rfl, rfl, by decide +kernel, rfl, by decide +kernel, by decide +kernel⟩
abbrev N_Kindw_containsw : List Str := ["self", "values"]
theorem sc_Kindw_containsw : FnScope N_Kindw_containsw ["self", "values"] (defScope s_Kindw_containsw) := ⟨rfl, rfl, rfl, by decide +kernel, rfl, by decide +kernel, by decide +kernel⟩
abbrev N_Kindw_andw : List Str := ["self", "other", "values"]
theorem sc_Kindw_andw : FnScope N_Kindw_andw ["self", "other"] (defScope s_Kindw_andw) := ⟨rfl, rfl, rfl, by decide +kernel, rfl, by decide +kernel, by decide +kernel⟩
abbrev N_Kindw_orw : List Str := ["self", "other", "more", "values"]
theorem sc_Kindw_orw : FnScope N_Kindw_orw ["self", "other"] (defScope s_Kindw_orw) := ⟨rfl, rfl, rfl, by decide +kernel, rfl, by decide +kernel, by decide +kernel⟩
abbrev N_Kindw_invertw : List Str := ["self", "missing", "values"]
theorem sc_Kindw_invertw : FnScope N_Kindw_invertw ["self"] (defScope s_Kindw_invertw) := ⟨rfl, rfl, rfl, by decide +kernel, rfl, by decide +kernel, by decide +kernel⟩
abbrev N_Kind_named : List Str := ["self", "name"]
theorem sc_Kind_named : FnScope N_Kind_named ["self", "name"] (defScope s_Kind_named) := ⟨rfl, rfl, rfl, by decide +kernel, rfl, by decide +kernel, by decide +kernel⟩
abbrev N_Kind_turned : List Str := ["self"]
theorem sc_Kind_turned : FnScope N_Kind_turned ["self"] (defScope s_Kind_turned) := ⟨rfl, rfl, rfl, by decide +kernel, rfl, by decide +kernel, by decide +kernel⟩
abbrev N_Kind_fixed : List Str := ["self", "position", "value"]
theorem sc_Kind_fixed : FnScope N_Kind_fixed ["self", "position", "value"] (defScope s_Kind_fixed) := ⟨rfl, rfl, rfl, by decide +kernel, rfl, by decide +kernel, by decide +kernel⟩
abbrev N_Kind_pieces : List Str := ["self"]
theorem sc_Kind_pieces : FnScope N_Kind_pieces ["self"] (defScope s_Kind_pieces) := ⟨rfl, rfl, rfl, by decide +kernel, rfl, by decide +kernel, by decide +kernel⟩
abbrev N_Kind_piece_of : List Str := ["self", "values"]
theorem sc_Kind_piece_of : FnScope N_Kind_piece_of ["self", "values"] (defScope s_Kind_piece_of) := ⟨rfl, rfl, rfl, by decide +kernel, rfl, by decide +kernel, by decide +kernel⟩
abbrev N_Kind_clause : List Str := ["wanted"]
theorem sc_Kind_clause : FnScope N_Kind_clause ["wanted"] (defScope s_Kind_clause) := ⟨rfl, rfl, rfl, by decide +kernel, rfl, by decide +kernel, by decide +kernel⟩
abbrev N_Kind_parity : List Str := ["width", "odd"]
theorem sc_Kind_parity : FnScope N_Kind_parity ["width", "odd"] (defScope s_Kind_parity) := ⟨rfl, rfl, rfl, by decide +kernel, rfl, by decide +kernel, by decide +kernel⟩
abbrev N_Kind_alike : List Str := ["width"]
theorem sc_Kind_alike : FnScope N_Kind_alike ["width"] (defScope s_Kind_alike) := ⟨rfl, rfl, rfl, by decide +kernel, rfl, by decide +kernel, by decide +kernel⟩
abbrev N_check_width : List Str := ["width"]
theorem sc_check_width : FnScope N_check_width ["width"] (defScope s_check_width) := ⟨rfl, rfl, rfl, by decide +kernel, rfl, by decide +kernel, by decide +kernel⟩
abbrev N_piece_around : List Str := ["values", "tuples", "reached", "at", "position", "other"]
theorem sc_piece_around : FnScope N_piece_around ["values", "tuples"] (defScope s_piece_around) := ⟨rfl, rfl, rfl, by decide +kernel, rfl, by decide +kernel, by decide +kernel⟩
abbrev N_grouped_by_piece : List Str := ["tuples", "grouped", "values", "piece", "other"]
theorem sc_grouped_by_piece : FnScope N_grouped_by_piece ["tuples"] (defScope s_grouped_by_piece) := ⟨rfl, rfl, rfl, by decide +kernel, rfl, by decide +kernel, by decide +kernel⟩
abbrev N_Rulesw_initw : List Str := ["self", "size", "rules", "known", "index", "kind", "letters", "elder", "letter", "rule"]
theorem sc_Rulesw_initw : FnScopeS N_Rulesw_initw ["self", "size", "rules"] (defScope s_Rulesw_initw) := ⟨rfl, rfl, rfl, by decide +kernel, rfl, by decide +kernel, by decide +kernel, by decide +kernel, rfl, rfl⟩
abbrev N_Rules_is_answer : List Str := ["self", "setting"]
theorem sc_Rules_is_answer : FnScope N_Rules_is_answer ["self", "setting"] (defScope s_Rules_is_answer) := ⟨rfl, rfl, rfl, by decide +kernel, rfl, by decide +kernel, by decide +kernel⟩
abbrev N_Rules_is_change : List Str := ["self", "first", "second"]
theorem sc_Rules_is_change : FnScope N_Rules_is_change ["self", "first", "second"] (defScope s_Rules_is_change) := ⟨rfl, rfl, rfl, by decide +kernel, rfl, by decide +kernel, by decide +kernel⟩
abbrev N_Rules_next_answers : List Str := ["self", "setting"]
theorem sc_Rules_next_answers : FnScope N_Rules_next_answers ["self", "setting"] (defScope s_Rules_next_answers) := ⟨rfl, rfl, rfl, by decide +kernel, rfl, by decide +kernel, by decide +kernel⟩
abbrev N_Rules_blocked : List Str := ["self", "setting", "parts", "part"]
theorem sc_Rules_blocked : FnScope N_Rules_blocked ["self", "setting", "parts", "part"] (defScope s_Rules_blocked) := ⟨rfl, rfl, rfl, by decide +kernel, rfl, by decide +kernel, by decide +kernel⟩
abbrev N_Rules_bars : List Str := ["self", "index", "setting", "parts", "part"]
theorem sc_Rules_bars : FnScope N_Rules_bars ["self", "index", "setting", "parts", "part"] (defScope s_Rules_bars) := ⟨rfl, rfl, rfl, by decide +kernel, rfl, by decide +kernel, by decide +kernel⟩
abbrev N_Rules_at_rule : List Str := ["self", "index", "setting", "letter"]
theorem sc_Rules_at_rule : FnScope N_Rules_at_rule ["self", "index", "setting"] (defScope s_Rules_at_rule) := ⟨rfl, rfl, rfl, by decide +kernel, rfl, by decide +kernel, by decide +kernel⟩
abbrev N_Rules_keeps : List Str := ["self", "indexes", "setting"]
theorem sc_Rules_keeps : FnScope N_Rules_keeps ["self", "indexes", "setting"] (defScope s_Rules_keeps) := ⟨rfl, rfl, rfl, by decide +kernel, rfl, by decide +kernel, by decide +kernel⟩
abbrev N_Rules_broken : List Str := ["self", "setting", "index", "rule"]
theorem sc_Rules_broken : FnScope N_Rules_broken ["self", "setting"] (defScope s_Rules_broken) := ⟨rfl, rfl, rfl, by decide +kernel, rfl, by decide +kernel, by decide +kernel⟩
abbrev N_Rules_kinds : List Str := ["self"]
theorem sc_Rules_kinds : FnScope N_Rules_kinds ["self"] (defScope s_Rules_kinds) := ⟨rfl, rfl, rfl, by decide +kernel, rfl, by decide +kernel, by decide +kernel⟩
abbrev N_Rules_with_rule : List Str := ["self", "kind", "letters"]
theorem sc_Rules_with_rule : FnScope N_Rules_with_rule ["self", "kind", "letters"] (defScope s_Rules_with_rule) := ⟨rfl, rfl, rfl, by decide +kernel, rfl, by decide +kernel, by decide +kernel⟩
abbrev N_Rules_without_rule : List Str := ["self", "index"]
theorem sc_Rules_without_rule : FnScope N_Rules_without_rule ["self", "index"] (defScope s_Rules_without_rule) := ⟨rfl, rfl, rfl, by decide +kernel, rfl, by decide +kernel, by decide +kernel⟩
abbrev N_Rules_turned : List Str := ["self"]
theorem sc_Rules_turned : FnScope N_Rules_turned ["self"] (defScope s_Rules_turned) := ⟨rfl, rfl, rfl, by decide +kernel, rfl, by decide +kernel, by decide +kernel⟩
abbrev N_Rules_renamed : List Str := ["self", "order"]
theorem sc_Rules_renamed : FnScope N_Rules_renamed ["self", "order"] (defScope s_Rules_renamed) := ⟨rfl, rfl, rfl, by decide +kernel, rfl, by decide +kernel, by decide +kernel⟩
abbrev N_Rules_joined : List Str := ["self", "other"]
theorem sc_Rules_joined : FnScope N_Rules_joined ["self", "other"] (defScope s_Rules_joined) := ⟨rfl, rfl, rfl, by decide +kernel, rfl, by decide +kernel, by decide +kernel⟩
abbrev N_Rules_all_answers : List Str := ["self"]
theorem sc_Rules_all_answers : FnScope N_Rules_all_answers ["self"] (defScope s_Rules_all_answers) := ⟨rfl, rfl, rfl, by decide +kernel, rfl, by decide +kernel, by decide +kernel⟩
abbrev N_are_letters : List Str := ["letters", "width", "size", "letter"]
theorem sc_are_letters : FnScope N_are_letters ["letters", "width", "size"] (defScope s_are_letters) := ⟨rfl, rfl, rfl, by decide +kernel, rfl, by decide +kernel, by decide +kernel⟩
abbrev N_law_cell : List Str := ["script", "k"]
theorem sc_law_cell : FnScope N_law_cell ["script", "k"] (defScope s_law_cell) := ⟨rfl, rfl, rfl, by decide +kernel, rfl, by decide +kernel, by decide +kernel⟩
abbrev N_law_draw : List Str := ["cell", "bases", "drawn", "rest", "base", "state"]
theorem sc_law_draw : FnScope N_law_draw ["cell", "bases"] (defScope s_law_draw) := ⟨rfl, rfl, rfl, by decide +kernel, rfl, by decide +kernel, by decide +kernel⟩
abbrev N_law_tuples : List Str := ["width", "rows", "turn", "row"]
theorem sc_law_tuples : FnScope N_law_tuples ["width"] (defScope s_law_tuples) := ⟨rfl, rfl, rfl, by decide +kernel, rfl, by decide +kernel, by decide +kernel⟩
abbrev N_law_picked : List Str := ["digits", "size", "pool", "chosen", "digit", "at", "letter"]
theorem sc_law_picked : FnScope N_law_picked ["digits", "size"] (defScope s_law_picked) := ⟨rfl, rfl, rfl, by decide +kernel, rfl, by decide +kernel, by decide +kernel⟩
abbrev N_law_some : List Str := ["cell", "size", "count"]
theorem sc_law_some : FnScope N_law_some ["cell", "size", "count"] (defScope s_law_some) := ⟨rfl, rfl, rfl, by decide +kernel, rfl, by decide +kernel, by decide +kernel⟩
abbrev N_law_values : List Str := ["setting", "letters", "letter"]
theorem sc_law_values : FnScope N_law_values ["setting", "letters"] (defScope s_law_values) := ⟨rfl, rfl, rfl, by decide +kernel, rfl, by decide +kernel, by decide +kernel⟩
abbrev N_law_shown : List Str := ["values", "own", "chosen", "letters", "k"]
theorem sc_law_shown : FnScope N_law_shown ["values", "own", "chosen", "letters"] (defScope s_law_shown) := ⟨rfl, rfl, rfl, by decide +kernel, rfl, by decide +kernel, by decide +kernel⟩
abbrev N_law_rule : List Str := ["cell", "size", "setting", "letters", "mode", "digits", "chosen", "own", "every", "missing", "table", "k", "kept"]
theorem sc_law_rule : FnScope N_law_rule ["cell", "size", "setting", "letters", "mode"] (defScope s_law_rule) := ⟨rfl, rfl, rfl, by decide +kernel, rfl, by decide +kernel, by decide +kernel⟩
abbrev N_law_keeps : List Str := ["setting", "rules", "rule"]
theorem sc_law_keeps : FnScope N_law_keeps ["setting", "rules"] (defScope s_law_keeps) := ⟨rfl, rfl, rfl, by decide +kernel, rfl, by decide +kernel, by decide +kernel⟩
abbrev N_law_due : List Str := ["setting", "rules", "letters", "choices", "changed", "k"]
theorem sc_law_due : FnScope N_law_due ["setting", "rules", "letters"] (defScope s_law_due) := ⟨rfl, rfl, rfl, by decide +kernel, rfl, by decide +kernel, by decide +kernel⟩
abbrev N_law_world : List Str := ["size", "rules", "names", "passed", "k"]
theorem sc_law_world : FnScope N_law_world ["size", "rules"] (defScope s_law_world) := ⟨rfl, rfl, rfl, by decide +kernel, rfl, by decide +kernel, by decide +kernel⟩
abbrev N_law_told : List Str := ["world", "setting", "letters", "due", "given", "told"]
theorem sc_law_told : FnScope N_law_told ["world", "setting", "letters", "due"] (defScope s_law_told) := ⟨rfl, rfl, rfl, by decide +kernel, rfl, by decide +kernel, by decide +kernel⟩
abbrev N_law_refused : List Str := ["world", "setting", "letters", "word", "e"]
theorem sc_law_refused : FnScope N_law_refused ["world", "setting", "letters", "word"] (defScope s_law_refused) := ⟨rfl, rfl, rfl, by decide +kernel, rfl, by decide +kernel, by decide +kernel⟩
abbrev N_law_wrong_settings : List Str := ["setting", "rules", "at", "wrong", "k", "other"]
theorem sc_law_wrong_settings : FnScope N_law_wrong_settings ["setting", "rules", "at"] (defScope s_law_wrong_settings) := ⟨rfl, rfl, rfl, by decide +kernel, rfl, by decide +kernel, by decide +kernel⟩
abbrev N_law : List Str := ["script", "shape", "size", "count", "setting", "letters", "rules", "world", "due", "less", "wrong", "many", "k", "other"]
theorem sc_law : FnScope N_law ["script"] (defScope s_law) := ⟨rfl, rfl, rfl, by decide +kernel, rfl, by decide +kernel, by decide +kernel⟩
structure Ad where
  C_StepError : Addr
  C_BadKind : Addr
  f_BadKindw_initw : Addr
  d_BadKindw_initw : FuncData
  k_BadKindw_initw : Addr
  c_BadKindw_initw : Addr
  C_BadRule : Addr
  f_BadRulew_initw : Addr
  d_BadRulew_initw : FuncData
  k_BadRulew_initw : Addr
  c_BadRulew_initw : Addr
  C_NotAnAnswer : Addr
  f_NotAnAnswerw_initw : Addr
  d_NotAnAnswerw_initw : FuncData
  k_NotAnAnswerw_initw : Addr
  c_NotAnAnswerw_initw : Addr
  C_TooMany : Addr
  f_TooManyw_initw : Addr
  d_TooManyw_initw : FuncData
  k_TooManyw_initw : Addr
  c_TooManyw_initw : Addr
  C_World : Addr
  C_Kind : Addr
  C_Rules : Addr
  f_is_binary : Addr
  d_is_binary : FuncData
  f_flipped : Addr
  d_flipped : FuncData
  f_all_binary : Addr
  d_all_binary : FuncData
  f_is_name : Addr
  d_is_name : FuncData
  f_Worldw_initw : Addr
  d_Worldw_initw : FuncData
  f_World_is_answer : Addr
  d_World_is_answer : FuncData
  f_check_answer : Addr
  d_check_answer : FuncData
  f_any_order : Addr
  d_any_order : FuncData
  f_Kindw_initw : Addr
  d_Kindw_initw : FuncData
  f_Kindw_containsw : Addr
  d_Kindw_containsw : FuncData
  f_Kindw_andw : Addr
  d_Kindw_andw : FuncData
  f_Kindw_orw : Addr
  d_Kindw_orw : FuncData
  f_Kindw_invertw : Addr
  d_Kindw_invertw : FuncData
  f_Kind_named : Addr
  d_Kind_named : FuncData
  f_check_width : Addr
  d_check_width : FuncData
  f_piece_around : Addr
  d_piece_around : FuncData
  f_grouped_by_piece : Addr
  d_grouped_by_piece : FuncData
  f_Rulesw_initw : Addr
  d_Rulesw_initw : FuncData
  k_Rulesw_initw : Addr
  c_Rulesw_initw : Addr
  f_Rules_is_answer : Addr
  d_Rules_is_answer : FuncData
  f_Rules_at_rule : Addr
  d_Rules_at_rule : FuncData
  f_Rules_broken : Addr
  d_Rules_broken : FuncData
  f_are_letters : Addr
  d_are_letters : FuncData
  f_law_cell : Addr
  d_law_cell : FuncData
  f_law_draw : Addr
  d_law_draw : FuncData
  f_law_tuples : Addr
  d_law_tuples : FuncData
  f_law_picked : Addr
  d_law_picked : FuncData
  f_law_some : Addr
  d_law_some : FuncData
  f_law_values : Addr
  d_law_values : FuncData
  f_law_shown : Addr
  d_law_shown : FuncData
  f_law_rule : Addr
  d_law_rule : FuncData
  f_law_keeps : Addr
  d_law_keeps : FuncData
  f_law_due : Addr
  d_law_due : FuncData
  f_law_world : Addr
  d_law_world : FuncData
  f_law_told : Addr
  d_law_told : FuncData
  f_law_refused : Addr
  d_law_refused : FuncData
  f_law_wrong_settings : Addr
  d_law_wrong_settings : FuncData
  f_law : Addr
  d_law : FuncData
structure Txt (P : Program) (K : PySem.W.Frag) (mg : Str → Option Value) (a : Ad) : Prop where
  z_ValueError : mg "ValueError" = none
  z_all : mg "all" = none
  z_bool : mg "bool" = none
  z_enumerate : mg "enumerate" = none
  z_int : mg "int" = none
  z_isinstance : mg "isinstance" = none
  z_len : mg "len" = none
  z_list : mg "list" = none
  z_min : mg "min" = none
  z_range : mg "range" = none
  z_set : mg "set" = none
  z_sorted : mg "sorted" = none
  z_super : mg "super" = none
  z_tuple : mg "tuple" = none
  z_zip : mg "zip" = none
  m_MOST_AT_ONCE : ∃ t, mg "MOST_AT_ONCE" = some (.int 8 t)
  m_MOST_WIDTH : ∃ t, mg "MOST_WIDTH" = some (.int 4 t)
  m_StepError : mg "StepError" = some (.ref a.C_StepError)
  xc_StepError : ExcC K a.C_StepError
  xf_StepError : XfC K a.C_StepError
  m_BadKind : mg "BadKind" = some (.ref a.C_BadKind)
  xc_BadKind : ExcC K a.C_BadKind
  xf_BadKind : XfC K a.C_BadKind
  F_BadKindw_initw : SupF P K mg "__init__" "BadKind.__init__" s_BadKindw_initw a.f_BadKindw_initw a.k_BadKindw_initw a.c_BadKindw_initw a.C_BadKind a.d_BadKindw_initw
  S_BadKindw_initw : SupE K a.C_BadKind a.C_BadKind
  b_BadKindw_initw : Binds K a.d_BadKindw_initw ["self", "index"] []
  i_BadKindw_initw : PySem.W.findIn K (.ref a.C_BadKind) "__init__" = some (some (.ref a.f_BadKindw_initw))
  ti_BadKindw_initw : PySem.W.typeIn K (.ref a.f_BadKindw_initw) = some (.type "function")
  nf_BadKind_index : PySem.W.findIn K (.ref a.C_BadKind) "index" = some none
  m_BadRule : mg "BadRule" = some (.ref a.C_BadRule)
  xc_BadRule : ExcC K a.C_BadRule
  xf_BadRule : XfC K a.C_BadRule
  F_BadRulew_initw : SupF P K mg "__init__" "BadRule.__init__" s_BadRulew_initw a.f_BadRulew_initw a.k_BadRulew_initw a.c_BadRulew_initw a.C_BadRule a.d_BadRulew_initw
  S_BadRulew_initw : SupE K a.C_BadRule a.C_BadRule
  b_BadRulew_initw : Binds K a.d_BadRulew_initw ["self", "index"] []
  i_BadRulew_initw : PySem.W.findIn K (.ref a.C_BadRule) "__init__" = some (some (.ref a.f_BadRulew_initw))
  ti_BadRulew_initw : PySem.W.typeIn K (.ref a.f_BadRulew_initw) = some (.type "function")
  nf_BadRule_index : PySem.W.findIn K (.ref a.C_BadRule) "index" = some none
  m_NotAnAnswer : mg "NotAnAnswer" = some (.ref a.C_NotAnAnswer)
  xc_NotAnAnswer : ExcC K a.C_NotAnAnswer
  xf_NotAnAnswer : XfC K a.C_NotAnAnswer
  F_NotAnAnswerw_initw : SupF P K mg "__init__" "NotAnAnswer.__init__" s_NotAnAnswerw_initw a.f_NotAnAnswerw_initw a.k_NotAnAnswerw_initw a.c_NotAnAnswerw_initw a.C_NotAnAnswer a.d_NotAnAnswerw_initw
  S_NotAnAnswerw_initw : SupE K a.C_NotAnAnswer a.C_NotAnAnswer
  b_NotAnAnswerw_initw : Binds K a.d_NotAnAnswerw_initw ["self", "setting"] []
  i_NotAnAnswerw_initw : PySem.W.findIn K (.ref a.C_NotAnAnswer) "__init__" = some (some (.ref a.f_NotAnAnswerw_initw))
  ti_NotAnAnswerw_initw : PySem.W.typeIn K (.ref a.f_NotAnAnswerw_initw) = some (.type "function")
  nf_NotAnAnswer_setting : PySem.W.findIn K (.ref a.C_NotAnAnswer) "setting" = some none
  m_TooMany : mg "TooMany" = some (.ref a.C_TooMany)
  xc_TooMany : ExcC K a.C_TooMany
  xf_TooMany : XfC K a.C_TooMany
  F_TooManyw_initw : SupF P K mg "__init__" "TooMany.__init__" s_TooManyw_initw a.f_TooManyw_initw a.k_TooManyw_initw a.c_TooManyw_initw a.C_TooMany a.d_TooManyw_initw
  S_TooManyw_initw : SupE K a.C_TooMany a.C_TooMany
  b_TooManyw_initw : Binds K a.d_TooManyw_initw ["self", "limit"] []
  i_TooManyw_initw : PySem.W.findIn K (.ref a.C_TooMany) "__init__" = some (some (.ref a.f_TooManyw_initw))
  ti_TooManyw_initw : PySem.W.typeIn K (.ref a.f_TooManyw_initw) = some (.type "function")
  nf_TooMany_limit : PySem.W.findIn K (.ref a.C_TooMany) "limit" = some none
  m_World : mg "World" = some (.ref a.C_World)
  cl_World : Cls K a.C_World
  ty_World : ∀ (H : Hp) (x dx : Addr) (fs : List (Str × V)), H x = some (.ins a.C_World dx fs) → TyX K H (.ref x) (.ref a.C_World)
  na_World_size : NoAttr K a.C_World "size"
  m_Kind : mg "Kind" = some (.ref a.C_Kind)
  cl_Kind : Cls K a.C_Kind
  ty_Kind : ∀ (H : Hp) (x dx : Addr) (fs : List (Str × V)), H x = some (.ins a.C_Kind dx fs) → TyX K H (.ref x) (.ref a.C_Kind)
  na_Kind_name : NoAttr K a.C_Kind "name"
  na_Kind_width : NoAttr K a.C_Kind "width"
  na_Kind_tuples : NoAttr K a.C_Kind "tuples"
  na_Kind_grouped : NoAttr K a.C_Kind "grouped"
  m_Rules : mg "Rules" = some (.ref a.C_Rules)
  cl_Rules : Cls K a.C_Rules
  ty_Rules : ∀ (H : Hp) (x dx : Addr) (fs : List (Str × V)), H x = some (.ins a.C_Rules dx fs) → TyX K H (.ref x) (.ref a.C_Rules)
  na_Rules_rules : NoAttr K a.C_Rules "rules"
  na_Rules_on_letter : NoAttr K a.C_Rules "on_letter"
  na_Rules_size : NoAttr K a.C_Rules "size"
  m_is_binary : mg "is_binary" = some (.ref a.f_is_binary)
  F_is_binary : Fun K "is_binary" "is_binary" s_is_binary a.f_is_binary a.d_is_binary
  b_is_binary : Binds K a.d_is_binary ["setting", "size"] []
  m_flipped : mg "flipped" = some (.ref a.f_flipped)
  F_flipped : Fun K "flipped" "flipped" s_flipped a.f_flipped a.d_flipped
  b_flipped : Binds K a.d_flipped ["setting", "positions"] []
  m_all_binary : mg "all_binary" = some (.ref a.f_all_binary)
  F_all_binary : Fun K "all_binary" "all_binary" s_all_binary a.f_all_binary a.d_all_binary
  b_all_binary : Binds K a.d_all_binary ["size"] []
  m_is_name : mg "is_name" = some (.ref a.f_is_name)
  F_is_name : Fun K "is_name" "is_name" s_is_name a.f_is_name a.d_is_name
  b_is_name : Binds K a.d_is_name ["text"] []
  F_Worldw_initw : Fun K "__init__" "World.__init__" s_Worldw_initw a.f_Worldw_initw a.d_Worldw_initw
  b_Worldw_initw : Binds K a.d_Worldw_initw ["self", "size"] []
  mk_World : Mk K a.C_World a.f_Worldw_initw
  F_World_is_answer : Fun K "is_answer" "World.is_answer" s_World_is_answer a.f_World_is_answer a.d_World_is_answer
  b_World_is_answer : Binds K a.d_World_is_answer ["self", "setting"] []
  me_World_is_answer : Meth K a.C_World "is_answer" a.f_World_is_answer
  m_check_answer : mg "check_answer" = some (.ref a.f_check_answer)
  F_check_answer : Fun K "check_answer" "check_answer" s_check_answer a.f_check_answer a.d_check_answer
  b_check_answer : Binds K a.d_check_answer ["world", "setting"] []
  m_any_order : mg "any_order" = some (.ref a.f_any_order)
  F_any_order : Fun K "any_order" "any_order" s_any_order a.f_any_order a.d_any_order
  b_any_order : Binds K a.d_any_order ["rules", "setting", "letters"] []
  F_Kindw_initw : Fun K "__init__" "Kind.__init__" s_Kindw_initw a.f_Kindw_initw a.d_Kindw_initw
  b_Kindw_initw : Binds K a.d_Kindw_initw ["self", "name", "width", "tuples"] []
  mk_Kind : Mk K a.C_Kind a.f_Kindw_initw
  F_Kindw_containsw : Fun K "__contains__" "Kind.__contains__" s_Kindw_containsw a.f_Kindw_containsw a.d_Kindw_containsw
  b_Kindw_containsw : Binds K a.d_Kindw_containsw ["self", "values"] []
  me_Kind___contains__ : Meth K a.C_Kind "__contains__" a.f_Kindw_containsw
  F_Kindw_andw : Fun K "__and__" "Kind.__and__" s_Kindw_andw a.f_Kindw_andw a.d_Kindw_andw
  b_Kindw_andw : Binds K a.d_Kindw_andw ["self", "other"] []
  op_Kindw_andw : OpC K a.C_Kind a.f_Kindw_andw "__and__"
  F_Kindw_orw : Fun K "__or__" "Kind.__or__" s_Kindw_orw a.f_Kindw_orw a.d_Kindw_orw
  b_Kindw_orw : Binds K a.d_Kindw_orw ["self", "other"] []
  op_Kindw_orw : OpC K a.C_Kind a.f_Kindw_orw "__or__"
  F_Kindw_invertw : Fun K "__invert__" "Kind.__invert__" s_Kindw_invertw a.f_Kindw_invertw a.d_Kindw_invertw
  b_Kindw_invertw : Binds K a.d_Kindw_invertw ["self"] []
  me_Kind___invert__ : Meth K a.C_Kind "__invert__" a.f_Kindw_invertw
  F_Kind_named : Fun K "named" "Kind.named" s_Kind_named a.f_Kind_named a.d_Kind_named
  b_Kind_named : Binds K a.d_Kind_named ["self", "name"] []
  me_Kind_named : Meth K a.C_Kind "named" a.f_Kind_named
  m_check_width : mg "check_width" = some (.ref a.f_check_width)
  F_check_width : Fun K "check_width" "check_width" s_check_width a.f_check_width a.d_check_width
  b_check_width : Binds K a.d_check_width ["width"] []
  m_piece_around : mg "piece_around" = some (.ref a.f_piece_around)
  F_piece_around : Fun K "piece_around" "piece_around" s_piece_around a.f_piece_around a.d_piece_around
  b_piece_around : Binds K a.d_piece_around ["values", "tuples"] []
  m_grouped_by_piece : mg "grouped_by_piece" = some (.ref a.f_grouped_by_piece)
  F_grouped_by_piece : Fun K "grouped_by_piece" "grouped_by_piece" s_grouped_by_piece a.f_grouped_by_piece a.d_grouped_by_piece
  b_grouped_by_piece : Binds K a.d_grouped_by_piece ["tuples"] []
  mk_Rules : Mk K a.C_Rules a.f_Rulesw_initw
  F_Rulesw_initw : SupF P K mg "__init__" "Rules.__init__" s_Rulesw_initw a.f_Rulesw_initw a.k_Rulesw_initw a.c_Rulesw_initw a.C_Rules a.d_Rulesw_initw
  S_Rulesw_initw : SupM K a.C_Rules a.C_Rules a.f_Worldw_initw
  b_Rulesw_initw : Binds K a.d_Rulesw_initw ["self", "size", "rules"] []
  F_Rules_is_answer : Fun K "is_answer" "Rules.is_answer" s_Rules_is_answer a.f_Rules_is_answer a.d_Rules_is_answer
  b_Rules_is_answer : Binds K a.d_Rules_is_answer ["self", "setting"] []
  me_Rules_is_answer : Meth K a.C_Rules "is_answer" a.f_Rules_is_answer
  F_Rules_at_rule : Fun K "at_rule" "Rules.at_rule" s_Rules_at_rule a.f_Rules_at_rule a.d_Rules_at_rule
  b_Rules_at_rule : Binds K a.d_Rules_at_rule ["self", "index", "setting"] []
  me_Rules_at_rule : Meth K a.C_Rules "at_rule" a.f_Rules_at_rule
  F_Rules_broken : Fun K "broken" "Rules.broken" s_Rules_broken a.f_Rules_broken a.d_Rules_broken
  b_Rules_broken : Binds K a.d_Rules_broken ["self", "setting"] []
  me_Rules_broken : Meth K a.C_Rules "broken" a.f_Rules_broken
  m_are_letters : mg "are_letters" = some (.ref a.f_are_letters)
  F_are_letters : Fun K "are_letters" "are_letters" s_are_letters a.f_are_letters a.d_are_letters
  b_are_letters : Binds K a.d_are_letters ["letters", "width", "size"] []
  m__law_cell : mg "_law_cell" = some (.ref a.f_law_cell)
  F_law_cell : Fun K "_law_cell" "_law_cell" s_law_cell a.f_law_cell a.d_law_cell
  b_law_cell : Binds K a.d_law_cell ["script", "k"] []
  m__law_draw : mg "_law_draw" = some (.ref a.f_law_draw)
  F_law_draw : Fun K "_law_draw" "_law_draw" s_law_draw a.f_law_draw a.d_law_draw
  b_law_draw : Binds K a.d_law_draw ["cell", "bases"] []
  m__law_tuples : mg "_law_tuples" = some (.ref a.f_law_tuples)
  F_law_tuples : Fun K "_law_tuples" "_law_tuples" s_law_tuples a.f_law_tuples a.d_law_tuples
  b_law_tuples : Binds K a.d_law_tuples ["width"] []
  m__law_picked : mg "_law_picked" = some (.ref a.f_law_picked)
  F_law_picked : Fun K "_law_picked" "_law_picked" s_law_picked a.f_law_picked a.d_law_picked
  b_law_picked : Binds K a.d_law_picked ["digits", "size"] []
  m__law_some : mg "_law_some" = some (.ref a.f_law_some)
  F_law_some : Fun K "_law_some" "_law_some" s_law_some a.f_law_some a.d_law_some
  b_law_some : Binds K a.d_law_some ["cell", "size", "count"] []
  m__law_values : mg "_law_values" = some (.ref a.f_law_values)
  F_law_values : Fun K "_law_values" "_law_values" s_law_values a.f_law_values a.d_law_values
  b_law_values : Binds K a.d_law_values ["setting", "letters"] []
  m__law_shown : mg "_law_shown" = some (.ref a.f_law_shown)
  F_law_shown : Fun K "_law_shown" "_law_shown" s_law_shown a.f_law_shown a.d_law_shown
  b_law_shown : Binds K a.d_law_shown ["values", "own", "chosen", "letters"] []
  m__law_rule : mg "_law_rule" = some (.ref a.f_law_rule)
  F_law_rule : Fun K "_law_rule" "_law_rule" s_law_rule a.f_law_rule a.d_law_rule
  b_law_rule : Binds K a.d_law_rule ["cell", "size", "setting", "letters", "mode"] []
  m__law_keeps : mg "_law_keeps" = some (.ref a.f_law_keeps)
  F_law_keeps : Fun K "_law_keeps" "_law_keeps" s_law_keeps a.f_law_keeps a.d_law_keeps
  b_law_keeps : Binds K a.d_law_keeps ["setting", "rules"] []
  m__law_due : mg "_law_due" = some (.ref a.f_law_due)
  F_law_due : Fun K "_law_due" "_law_due" s_law_due a.f_law_due a.d_law_due
  b_law_due : Binds K a.d_law_due ["setting", "rules", "letters"] []
  m__law_world : mg "_law_world" = some (.ref a.f_law_world)
  F_law_world : Fun K "_law_world" "_law_world" s_law_world a.f_law_world a.d_law_world
  b_law_world : Binds K a.d_law_world ["size", "rules"] []
  m__law_told : mg "_law_told" = some (.ref a.f_law_told)
  F_law_told : Fun K "_law_told" "_law_told" s_law_told a.f_law_told a.d_law_told
  b_law_told : Binds K a.d_law_told ["world", "setting", "letters", "due"] []
  m__law_refused : mg "_law_refused" = some (.ref a.f_law_refused)
  F_law_refused : Fun K "_law_refused" "_law_refused" s_law_refused a.f_law_refused a.d_law_refused
  b_law_refused : Binds K a.d_law_refused ["world", "setting", "letters", "word"] []
  m__law_wrong_settings : mg "_law_wrong_settings" = some (.ref a.f_law_wrong_settings)
  F_law_wrong_settings : Fun K "_law_wrong_settings" "_law_wrong_settings" s_law_wrong_settings a.f_law_wrong_settings a.d_law_wrong_settings
  b_law_wrong_settings : Binds K a.d_law_wrong_settings ["setting", "rules", "at"] []
  m_law : mg "law" = some (.ref a.f_law)
  F_law : Fun K "law" "law" s_law a.f_law a.d_law
  b_law : Binds K a.d_law ["script"] []
  cr_Rules : ClX.CRead K a.C_Rules (.type "type")
  cv_Rules_MOST_LETTERS : ∃ t, ClX.CVal K a.C_Rules (.type "type") "MOST_LETTERS" (.int 14) (.int 14 t)
  cv_Rules_MOST_RULES : ∃ t, ClX.CVal K a.C_Rules (.type "type") "MOST_RULES" (.int 80) (.int 80 t)
  kit_NotAnAnswer_TooMany : PySem.W.kitOne K (.ref a.C_NotAnAnswer) (.ref a.C_TooMany) = some false
  kit_NotAnAnswer_StepError : PySem.W.kitOne K (.ref a.C_NotAnAnswer) (.ref a.C_StepError) = some true
  kit_NotAnAnswer_ValueError : PySem.W.kitOne K (.ref a.C_NotAnAnswer) (.type "ValueError") = some true
  kit_TooMany_StepError : PySem.W.kitOne K (.ref a.C_TooMany) (.ref a.C_StepError) = some true
  kit_TooMany_ValueError : PySem.W.kitOne K (.ref a.C_TooMany) (.type "ValueError") = some true
  exm_NotAnAnswer_NotAnAnswer : PySem.W.exmOne K (.ref a.C_NotAnAnswer) (.ref a.C_NotAnAnswer) = some true
  exm_TooMany_NotAnAnswer : PySem.W.exmOne K (.ref a.C_TooMany) (.ref a.C_NotAnAnswer) = some false
  exm_TooMany_TooMany : PySem.W.exmOne K (.ref a.C_TooMany) (.ref a.C_TooMany) = some true
theorem all_mk {P : Program} {K : PySem.W.Frag} {h : Heap} {mg : Str → Option Value} (X : K.In h) (G : h.Ns mainGlobals mg)
  {t_MOST_AT_ONCE : Tok}
  {t_MOST_WIDTH : Tok}
  {C_StepError : Addr}
  {C_BadKind : Addr}
  {f_BadKindw_initw k_BadKindw_initw c_BadKindw_initw : Addr}
  {oc_BadKindw_initw dc_BadKindw_initw pm_BadKindw_initw ct_BadKindw_initw ccl_BadKindw_initw cl_BadKindw_initw : Value} {od_BadKindw_initw an_BadKindw_initw cdd_BadKindw_initw cld_BadKindw_initw : Option Addr} {sl_BadKindw_initw ccs_BadKindw_initw csl_BadKindw_initw : Array (Option Value)} {vs_BadKindw_initw : Array Value} {file_BadKindw_initw : Str} {tf_BadKindw_initw : Tok}
  {nm_BadKindw_initw qn_BadKindw_initw : Str} {Nn_BadKindw_initw : Addr} {bs_BadKindw_initw sub_BadKindw_initw : List Value} {sn_BadKindw_initw : List Str} {ab_BadKindw_initw : Bool} {col_BadKindw_initw : Option Bool} {dd_BadKindw_initw : Option Addr} {k0_BadKindw_initw k1_BadKindw_initw k2_BadKindw_initw k3_BadKindw_initw k5_BadKindw_initw : Option Value}
  {C_BadRule : Addr}
  {f_BadRulew_initw k_BadRulew_initw c_BadRulew_initw : Addr}
  {oc_BadRulew_initw dc_BadRulew_initw pm_BadRulew_initw ct_BadRulew_initw ccl_BadRulew_initw cl_BadRulew_initw : Value} {od_BadRulew_initw an_BadRulew_initw cdd_BadRulew_initw cld_BadRulew_initw : Option Addr} {sl_BadRulew_initw ccs_BadRulew_initw csl_BadRulew_initw : Array (Option Value)} {vs_BadRulew_initw : Array Value} {file_BadRulew_initw : Str} {tf_BadRulew_initw : Tok}
  {nm_BadRulew_initw qn_BadRulew_initw : Str} {Nn_BadRulew_initw : Addr} {bs_BadRulew_initw sub_BadRulew_initw : List Value} {sn_BadRulew_initw : List Str} {ab_BadRulew_initw : Bool} {col_BadRulew_initw : Option Bool} {dd_BadRulew_initw : Option Addr} {k0_BadRulew_initw k1_BadRulew_initw k2_BadRulew_initw k3_BadRulew_initw k5_BadRulew_initw : Option Value}
  {C_NotAnAnswer : Addr}
  {f_NotAnAnswerw_initw k_NotAnAnswerw_initw c_NotAnAnswerw_initw : Addr}
  {oc_NotAnAnswerw_initw dc_NotAnAnswerw_initw pm_NotAnAnswerw_initw ct_NotAnAnswerw_initw ccl_NotAnAnswerw_initw cl_NotAnAnswerw_initw : Value} {od_NotAnAnswerw_initw an_NotAnAnswerw_initw cdd_NotAnAnswerw_initw cld_NotAnAnswerw_initw : Option Addr} {sl_NotAnAnswerw_initw ccs_NotAnAnswerw_initw csl_NotAnAnswerw_initw : Array (Option Value)} {vs_NotAnAnswerw_initw : Array Value} {file_NotAnAnswerw_initw : Str} {tf_NotAnAnswerw_initw : Tok}
  {nm_NotAnAnswerw_initw qn_NotAnAnswerw_initw : Str} {Nn_NotAnAnswerw_initw : Addr} {bs_NotAnAnswerw_initw sub_NotAnAnswerw_initw : List Value} {sn_NotAnAnswerw_initw : List Str} {ab_NotAnAnswerw_initw : Bool} {col_NotAnAnswerw_initw : Option Bool} {dd_NotAnAnswerw_initw : Option Addr} {k0_NotAnAnswerw_initw k1_NotAnAnswerw_initw k2_NotAnAnswerw_initw k3_NotAnAnswerw_initw k5_NotAnAnswerw_initw : Option Value}
  {C_TooMany : Addr}
  {f_TooManyw_initw k_TooManyw_initw c_TooManyw_initw : Addr}
  {oc_TooManyw_initw dc_TooManyw_initw pm_TooManyw_initw ct_TooManyw_initw ccl_TooManyw_initw cl_TooManyw_initw : Value} {od_TooManyw_initw an_TooManyw_initw cdd_TooManyw_initw cld_TooManyw_initw : Option Addr} {sl_TooManyw_initw ccs_TooManyw_initw csl_TooManyw_initw : Array (Option Value)} {vs_TooManyw_initw : Array Value} {file_TooManyw_initw : Str} {tf_TooManyw_initw : Tok}
  {nm_TooManyw_initw qn_TooManyw_initw : Str} {Nn_TooManyw_initw : Addr} {bs_TooManyw_initw sub_TooManyw_initw : List Value} {sn_TooManyw_initw : List Str} {ab_TooManyw_initw : Bool} {col_TooManyw_initw : Option Bool} {dd_TooManyw_initw : Option Addr} {k0_TooManyw_initw k1_TooManyw_initw k2_TooManyw_initw k3_TooManyw_initw k5_TooManyw_initw : Option Value}
  {C_World : Addr}
  {C_Kind : Addr}
  {C_Rules : Addr}
  {f_is_binary : Addr} {oc_is_binary kV_is_binary dc_is_binary pm_is_binary cd_is_binary ct_is_binary : Value} {od_is_binary an_is_binary : Option Addr} {sl_is_binary : Array (Option Value)}
  {f_flipped : Addr} {oc_flipped kV_flipped dc_flipped pm_flipped cd_flipped ct_flipped : Value} {od_flipped an_flipped : Option Addr} {sl_flipped : Array (Option Value)}
  {f_all_binary : Addr} {oc_all_binary kV_all_binary dc_all_binary pm_all_binary cd_all_binary ct_all_binary : Value} {od_all_binary an_all_binary : Option Addr} {sl_all_binary : Array (Option Value)}
  {f_is_name : Addr} {oc_is_name kV_is_name dc_is_name pm_is_name cd_is_name ct_is_name : Value} {od_is_name an_is_name : Option Addr} {sl_is_name : Array (Option Value)}
  {f_Worldw_initw : Addr} {oc_Worldw_initw kV_Worldw_initw dc_Worldw_initw pm_Worldw_initw cd_Worldw_initw ct_Worldw_initw : Value} {od_Worldw_initw an_Worldw_initw : Option Addr} {sl_Worldw_initw : Array (Option Value)}
  {f_World_is_answer : Addr} {oc_World_is_answer kV_World_is_answer dc_World_is_answer pm_World_is_answer cd_World_is_answer ct_World_is_answer : Value} {od_World_is_answer an_World_is_answer : Option Addr} {sl_World_is_answer : Array (Option Value)}
  {f_check_answer : Addr} {oc_check_answer kV_check_answer dc_check_answer pm_check_answer cd_check_answer ct_check_answer : Value} {od_check_answer an_check_answer : Option Addr} {sl_check_answer : Array (Option Value)}
  {f_any_order : Addr} {oc_any_order kV_any_order dc_any_order pm_any_order cd_any_order ct_any_order : Value} {od_any_order an_any_order : Option Addr} {sl_any_order : Array (Option Value)}
  {f_Kindw_initw : Addr} {oc_Kindw_initw kV_Kindw_initw dc_Kindw_initw pm_Kindw_initw cd_Kindw_initw ct_Kindw_initw : Value} {od_Kindw_initw an_Kindw_initw : Option Addr} {sl_Kindw_initw : Array (Option Value)}
  {f_Kindw_containsw : Addr} {oc_Kindw_containsw kV_Kindw_containsw dc_Kindw_containsw pm_Kindw_containsw cd_Kindw_containsw ct_Kindw_containsw : Value} {od_Kindw_containsw an_Kindw_containsw : Option Addr} {sl_Kindw_containsw : Array (Option Value)}
  {f_Kindw_andw : Addr} {oc_Kindw_andw kV_Kindw_andw dc_Kindw_andw pm_Kindw_andw cd_Kindw_andw ct_Kindw_andw : Value} {od_Kindw_andw an_Kindw_andw : Option Addr} {sl_Kindw_andw : Array (Option Value)}
  {f_Kindw_orw : Addr} {oc_Kindw_orw kV_Kindw_orw dc_Kindw_orw pm_Kindw_orw cd_Kindw_orw ct_Kindw_orw : Value} {od_Kindw_orw an_Kindw_orw : Option Addr} {sl_Kindw_orw : Array (Option Value)}
  {f_Kindw_invertw : Addr} {oc_Kindw_invertw kV_Kindw_invertw dc_Kindw_invertw pm_Kindw_invertw cd_Kindw_invertw ct_Kindw_invertw : Value} {od_Kindw_invertw an_Kindw_invertw : Option Addr} {sl_Kindw_invertw : Array (Option Value)}
  {f_Kind_named : Addr} {oc_Kind_named kV_Kind_named dc_Kind_named pm_Kind_named cd_Kind_named ct_Kind_named : Value} {od_Kind_named an_Kind_named : Option Addr} {sl_Kind_named : Array (Option Value)}
  {f_check_width : Addr} {oc_check_width kV_check_width dc_check_width pm_check_width cd_check_width ct_check_width : Value} {od_check_width an_check_width : Option Addr} {sl_check_width : Array (Option Value)}
  {f_piece_around : Addr} {oc_piece_around kV_piece_around dc_piece_around pm_piece_around cd_piece_around ct_piece_around : Value} {od_piece_around an_piece_around : Option Addr} {sl_piece_around : Array (Option Value)}
  {f_grouped_by_piece : Addr} {oc_grouped_by_piece kV_grouped_by_piece dc_grouped_by_piece pm_grouped_by_piece cd_grouped_by_piece ct_grouped_by_piece : Value} {od_grouped_by_piece an_grouped_by_piece : Option Addr} {sl_grouped_by_piece : Array (Option Value)}
  {f_Rulesw_initw k_Rulesw_initw c_Rulesw_initw : Addr}
  {oc_Rulesw_initw dc_Rulesw_initw pm_Rulesw_initw ct_Rulesw_initw ccl_Rulesw_initw cl_Rulesw_initw : Value} {od_Rulesw_initw an_Rulesw_initw cdd_Rulesw_initw cld_Rulesw_initw : Option Addr} {sl_Rulesw_initw ccs_Rulesw_initw csl_Rulesw_initw : Array (Option Value)} {vs_Rulesw_initw : Array Value} {file_Rulesw_initw : Str} {tf_Rulesw_initw : Tok}
  {f_Rules_is_answer : Addr} {oc_Rules_is_answer kV_Rules_is_answer dc_Rules_is_answer pm_Rules_is_answer cd_Rules_is_answer ct_Rules_is_answer : Value} {od_Rules_is_answer an_Rules_is_answer : Option Addr} {sl_Rules_is_answer : Array (Option Value)}
  {f_Rules_at_rule : Addr} {oc_Rules_at_rule kV_Rules_at_rule dc_Rules_at_rule pm_Rules_at_rule cd_Rules_at_rule ct_Rules_at_rule : Value} {od_Rules_at_rule an_Rules_at_rule : Option Addr} {sl_Rules_at_rule : Array (Option Value)}
  {f_Rules_broken : Addr} {oc_Rules_broken kV_Rules_broken dc_Rules_broken pm_Rules_broken cd_Rules_broken ct_Rules_broken : Value} {od_Rules_broken an_Rules_broken : Option Addr} {sl_Rules_broken : Array (Option Value)}
  {f_are_letters : Addr} {oc_are_letters kV_are_letters dc_are_letters pm_are_letters cd_are_letters ct_are_letters : Value} {od_are_letters an_are_letters : Option Addr} {sl_are_letters : Array (Option Value)}
  {f_law_cell : Addr} {oc_law_cell kV_law_cell dc_law_cell pm_law_cell cd_law_cell ct_law_cell : Value} {od_law_cell an_law_cell : Option Addr} {sl_law_cell : Array (Option Value)}
  {f_law_draw : Addr} {oc_law_draw kV_law_draw dc_law_draw pm_law_draw cd_law_draw ct_law_draw : Value} {od_law_draw an_law_draw : Option Addr} {sl_law_draw : Array (Option Value)}
  {f_law_tuples : Addr} {oc_law_tuples kV_law_tuples dc_law_tuples pm_law_tuples cd_law_tuples ct_law_tuples : Value} {od_law_tuples an_law_tuples : Option Addr} {sl_law_tuples : Array (Option Value)}
  {f_law_picked : Addr} {oc_law_picked kV_law_picked dc_law_picked pm_law_picked cd_law_picked ct_law_picked : Value} {od_law_picked an_law_picked : Option Addr} {sl_law_picked : Array (Option Value)}
  {f_law_some : Addr} {oc_law_some kV_law_some dc_law_some pm_law_some cd_law_some ct_law_some : Value} {od_law_some an_law_some : Option Addr} {sl_law_some : Array (Option Value)}
  {f_law_values : Addr} {oc_law_values kV_law_values dc_law_values pm_law_values cd_law_values ct_law_values : Value} {od_law_values an_law_values : Option Addr} {sl_law_values : Array (Option Value)}
  {f_law_shown : Addr} {oc_law_shown kV_law_shown dc_law_shown pm_law_shown cd_law_shown ct_law_shown : Value} {od_law_shown an_law_shown : Option Addr} {sl_law_shown : Array (Option Value)}
  {f_law_rule : Addr} {oc_law_rule kV_law_rule dc_law_rule pm_law_rule cd_law_rule ct_law_rule : Value} {od_law_rule an_law_rule : Option Addr} {sl_law_rule : Array (Option Value)}
  {f_law_keeps : Addr} {oc_law_keeps kV_law_keeps dc_law_keeps pm_law_keeps cd_law_keeps ct_law_keeps : Value} {od_law_keeps an_law_keeps : Option Addr} {sl_law_keeps : Array (Option Value)}
  {f_law_due : Addr} {oc_law_due kV_law_due dc_law_due pm_law_due cd_law_due ct_law_due : Value} {od_law_due an_law_due : Option Addr} {sl_law_due : Array (Option Value)}
  {f_law_world : Addr} {oc_law_world kV_law_world dc_law_world pm_law_world cd_law_world ct_law_world : Value} {od_law_world an_law_world : Option Addr} {sl_law_world : Array (Option Value)}
  {f_law_told : Addr} {oc_law_told kV_law_told dc_law_told pm_law_told cd_law_told ct_law_told : Value} {od_law_told an_law_told : Option Addr} {sl_law_told : Array (Option Value)}
  {f_law_refused : Addr} {oc_law_refused kV_law_refused dc_law_refused pm_law_refused cd_law_refused ct_law_refused : Value} {od_law_refused an_law_refused : Option Addr} {sl_law_refused : Array (Option Value)}
  {f_law_wrong_settings : Addr} {oc_law_wrong_settings kV_law_wrong_settings dc_law_wrong_settings pm_law_wrong_settings cd_law_wrong_settings ct_law_wrong_settings : Value} {od_law_wrong_settings an_law_wrong_settings : Option Addr} {sl_law_wrong_settings : Array (Option Value)}
  {f_law : Addr} {oc_law kV_law dc_law pm_law cd_law ct_law : Value} {od_law an_law : Option Addr} {sl_law : Array (Option Value)}
  {t_Rules_MOST_LETTERS : Tok}
  {t_Rules_MOST_RULES : Tok}
  (z_ValueError : PySem.W.nsIn K mainGlobals "ValueError" = some none)
  (z_all : PySem.W.nsIn K mainGlobals "all" = some none)
  (z_bool : PySem.W.nsIn K mainGlobals "bool" = some none)
  (z_enumerate : PySem.W.nsIn K mainGlobals "enumerate" = some none)
  (z_int : PySem.W.nsIn K mainGlobals "int" = some none)
  (z_isinstance : PySem.W.nsIn K mainGlobals "isinstance" = some none)
  (z_len : PySem.W.nsIn K mainGlobals "len" = some none)
  (z_list : PySem.W.nsIn K mainGlobals "list" = some none)
  (z_min : PySem.W.nsIn K mainGlobals "min" = some none)
  (z_range : PySem.W.nsIn K mainGlobals "range" = some none)
  (z_set : PySem.W.nsIn K mainGlobals "set" = some none)
  (z_sorted : PySem.W.nsIn K mainGlobals "sorted" = some none)
  (z_super : PySem.W.nsIn K mainGlobals "super" = some none)
  (z_tuple : PySem.W.nsIn K mainGlobals "tuple" = some none)
  (z_zip : PySem.W.nsIn K mainGlobals "zip" = some none)
  (m_MOST_AT_ONCE : PySem.W.nsIn K mainGlobals "MOST_AT_ONCE" = some (some (.int 8 t_MOST_AT_ONCE)))
  (m_MOST_WIDTH : PySem.W.nsIn K mainGlobals "MOST_WIDTH" = some (some (.int 4 t_MOST_WIDTH)))
  (m_StepError : PySem.W.nsIn K mainGlobals "StepError" = some (some (.ref C_StepError)))
  (hg_StepError : PySem.W.findIn K (.ref C_StepError) "__getattribute__" = some (some (.builtin "BaseException.__getattribute__")))
  (hk_StepError : PySem.W.findIn K (.ref C_StepError) "__getattr__" = some none)
  (hs_StepError : PySem.W.subIn K (.ref C_StepError) (.type "BaseException") = some true)
  (hd_StepError : PySem.W.hasDictIn K C_StepError = true)
  (ha_StepError : PySem.W.findIn K (.ref C_StepError) "__class__" = some (some (.builtin "object.__class__")))
  (hm_StepError : PySem.W.mroIn K C_StepError (.type "object") = some true)
  (m_BadKind : PySem.W.nsIn K mainGlobals "BadKind" = some (some (.ref C_BadKind)))
  (hg_BadKind : PySem.W.findIn K (.ref C_BadKind) "__getattribute__" = some (some (.builtin "BaseException.__getattribute__")))
  (hk_BadKind : PySem.W.findIn K (.ref C_BadKind) "__getattr__" = some none)
  (hs_BadKind : PySem.W.subIn K (.ref C_BadKind) (.type "BaseException") = some true)
  (hd_BadKind : PySem.W.hasDictIn K C_BadKind = true)
  (ha_BadKind : PySem.W.findIn K (.ref C_BadKind) "__class__" = some (some (.builtin "object.__class__")))
  (hm_BadKind : PySem.W.mroIn K C_BadKind (.type "object") = some true)
  (x_BadKindw_initw : K.lookup C_BadKind = some (excClassObj nm_BadKindw_initw qn_BadKindw_initw C_BadKind Nn_BadKindw_initw bs_BadKindw_initw [(.ref C_StepError), (.type "ValueError"), (.type "Exception"), (.type "BaseException"), (.type "object")] true sn_BadKindw_initw sub_BadKindw_initw ab_BadKindw_initw col_BadKindw_initw dd_BadKindw_initw k0_BadKindw_initw k1_BadKindw_initw k2_BadKindw_initw k3_BadKindw_initw k5_BadKindw_initw "ValueError.__new__"))
  (rv_BadKindw_initw : PySem.HandSPX.refsVE [(.ref C_StepError), (.type "ValueError"), (.type "Exception"), (.type "BaseException"), (.type "object")] = true)
  (i_BadKindw_initw : PySem.W.findIn K (.ref C_BadKind) "__init__" = some (some (.ref f_BadKindw_initw)))
  (l_BadKindw_initw : K.lookup f_BadKindw_initw = some ⟨oc_BadKindw_initw, od_BadKindw_initw, .func (PySem.W.ksFn "__init__" "BadKind.__init__" (defArgs s_BadKindw_initw) (defBody s_BadKindw_initw) (defScope s_BadKindw_initw) .none .none dc_BadKindw_initw pm_BadKindw_initw an_BadKindw_initw (.ref k_BadKindw_initw) ct_BadKindw_initw c_BadKindw_initw), sl_BadKindw_initw⟩)
  (cd_BadKindw_initw : PySem.W.codeIn K (.ref k_BadKindw_initw) "BadKind.__init__" = true)
  (kc_BadKindw_initw : K.lookup k_BadKindw_initw = some ⟨ccl_BadKindw_initw, cdd_BadKindw_initw, .fields vs_BadKindw_initw, ccs_BadKindw_initw⟩)
  (kv_BadKindw_initw : vs_BadKindw_initw[2]? = some (.str file_BadKindw_initw tf_BadKindw_initw))
  (kf_BadKindw_initw : (P.main.file == file_BadKindw_initw) = true)
  (cc_BadKindw_initw : K.lookup c_BadKindw_initw = some ⟨cl_BadKindw_initw, cld_BadKindw_initw, .cell (some (.ref C_BadKind)), csl_BadKindw_initw⟩)
  (kp_BadKindw_initw : PySem.W.keepIn K (.ref f_BadKindw_initw) = true)
  (ti_BadKindw_initw : PySem.W.typeIn K (.ref f_BadKindw_initw) = some (.type "function"))
  (ic_BadKindw_initw : PySem.W.isClsIn K C_BadKind = true)
  (sa_BadKindw_initw : PySem.W.findIn K (.ref C_BadKind) "__setattr__" = some (some (.builtin "object.__setattr__")))
  (ty_BadKindw_initw : PySem.W.typeIn K (.ref C_BadKind) = some (.type "type"))
  (ke_BadKindw_initw : PySem.W.keepIn K (.ref C_BadKind) = true)
  (su_BadKindw_initw : PySem.W.ks_superIn K C_BadKind C_BadKind "__init__" = some (some (.builtin "ValueError.__init__")))
  (ve_BadKindw_initw : PySem.W.subIn K (.ref C_BadKind) (.type "ValueError") = some true)
  (mr_BadKindw_initw : PySem.W.mroIn K C_BadKind (.ref C_BadKind) = some true)
  (nf_BadKind_index : PySem.W.findIn K (.ref C_BadKind) "index" = some none)
  (m_BadRule : PySem.W.nsIn K mainGlobals "BadRule" = some (some (.ref C_BadRule)))
  (hg_BadRule : PySem.W.findIn K (.ref C_BadRule) "__getattribute__" = some (some (.builtin "BaseException.__getattribute__")))
  (hk_BadRule : PySem.W.findIn K (.ref C_BadRule) "__getattr__" = some none)
  (hs_BadRule : PySem.W.subIn K (.ref C_BadRule) (.type "BaseException") = some true)
  (hd_BadRule : PySem.W.hasDictIn K C_BadRule = true)
  (ha_BadRule : PySem.W.findIn K (.ref C_BadRule) "__class__" = some (some (.builtin "object.__class__")))
  (hm_BadRule : PySem.W.mroIn K C_BadRule (.type "object") = some true)
  (x_BadRulew_initw : K.lookup C_BadRule = some (excClassObj nm_BadRulew_initw qn_BadRulew_initw C_BadRule Nn_BadRulew_initw bs_BadRulew_initw [(.ref C_StepError), (.type "ValueError"), (.type "Exception"), (.type "BaseException"), (.type "object")] true sn_BadRulew_initw sub_BadRulew_initw ab_BadRulew_initw col_BadRulew_initw dd_BadRulew_initw k0_BadRulew_initw k1_BadRulew_initw k2_BadRulew_initw k3_BadRulew_initw k5_BadRulew_initw "ValueError.__new__"))
  (rv_BadRulew_initw : PySem.HandSPX.refsVE [(.ref C_StepError), (.type "ValueError"), (.type "Exception"), (.type "BaseException"), (.type "object")] = true)
  (i_BadRulew_initw : PySem.W.findIn K (.ref C_BadRule) "__init__" = some (some (.ref f_BadRulew_initw)))
  (l_BadRulew_initw : K.lookup f_BadRulew_initw = some ⟨oc_BadRulew_initw, od_BadRulew_initw, .func (PySem.W.ksFn "__init__" "BadRule.__init__" (defArgs s_BadRulew_initw) (defBody s_BadRulew_initw) (defScope s_BadRulew_initw) .none .none dc_BadRulew_initw pm_BadRulew_initw an_BadRulew_initw (.ref k_BadRulew_initw) ct_BadRulew_initw c_BadRulew_initw), sl_BadRulew_initw⟩)
  (cd_BadRulew_initw : PySem.W.codeIn K (.ref k_BadRulew_initw) "BadRule.__init__" = true)
  (kc_BadRulew_initw : K.lookup k_BadRulew_initw = some ⟨ccl_BadRulew_initw, cdd_BadRulew_initw, .fields vs_BadRulew_initw, ccs_BadRulew_initw⟩)
  (kv_BadRulew_initw : vs_BadRulew_initw[2]? = some (.str file_BadRulew_initw tf_BadRulew_initw))
  (kf_BadRulew_initw : (P.main.file == file_BadRulew_initw) = true)
  (cc_BadRulew_initw : K.lookup c_BadRulew_initw = some ⟨cl_BadRulew_initw, cld_BadRulew_initw, .cell (some (.ref C_BadRule)), csl_BadRulew_initw⟩)
  (kp_BadRulew_initw : PySem.W.keepIn K (.ref f_BadRulew_initw) = true)
  (ti_BadRulew_initw : PySem.W.typeIn K (.ref f_BadRulew_initw) = some (.type "function"))
  (ic_BadRulew_initw : PySem.W.isClsIn K C_BadRule = true)
  (sa_BadRulew_initw : PySem.W.findIn K (.ref C_BadRule) "__setattr__" = some (some (.builtin "object.__setattr__")))
  (ty_BadRulew_initw : PySem.W.typeIn K (.ref C_BadRule) = some (.type "type"))
  (ke_BadRulew_initw : PySem.W.keepIn K (.ref C_BadRule) = true)
  (su_BadRulew_initw : PySem.W.ks_superIn K C_BadRule C_BadRule "__init__" = some (some (.builtin "ValueError.__init__")))
  (ve_BadRulew_initw : PySem.W.subIn K (.ref C_BadRule) (.type "ValueError") = some true)
  (mr_BadRulew_initw : PySem.W.mroIn K C_BadRule (.ref C_BadRule) = some true)
  (nf_BadRule_index : PySem.W.findIn K (.ref C_BadRule) "index" = some none)
  (m_NotAnAnswer : PySem.W.nsIn K mainGlobals "NotAnAnswer" = some (some (.ref C_NotAnAnswer)))
  (hg_NotAnAnswer : PySem.W.findIn K (.ref C_NotAnAnswer) "__getattribute__" = some (some (.builtin "BaseException.__getattribute__")))
  (hk_NotAnAnswer : PySem.W.findIn K (.ref C_NotAnAnswer) "__getattr__" = some none)
  (hs_NotAnAnswer : PySem.W.subIn K (.ref C_NotAnAnswer) (.type "BaseException") = some true)
  (hd_NotAnAnswer : PySem.W.hasDictIn K C_NotAnAnswer = true)
  (ha_NotAnAnswer : PySem.W.findIn K (.ref C_NotAnAnswer) "__class__" = some (some (.builtin "object.__class__")))
  (hm_NotAnAnswer : PySem.W.mroIn K C_NotAnAnswer (.type "object") = some true)
  (x_NotAnAnswerw_initw : K.lookup C_NotAnAnswer = some (excClassObj nm_NotAnAnswerw_initw qn_NotAnAnswerw_initw C_NotAnAnswer Nn_NotAnAnswerw_initw bs_NotAnAnswerw_initw [(.ref C_StepError), (.type "ValueError"), (.type "Exception"), (.type "BaseException"), (.type "object")] true sn_NotAnAnswerw_initw sub_NotAnAnswerw_initw ab_NotAnAnswerw_initw col_NotAnAnswerw_initw dd_NotAnAnswerw_initw k0_NotAnAnswerw_initw k1_NotAnAnswerw_initw k2_NotAnAnswerw_initw k3_NotAnAnswerw_initw k5_NotAnAnswerw_initw "ValueError.__new__"))
  (rv_NotAnAnswerw_initw : PySem.HandSPX.refsVE [(.ref C_StepError), (.type "ValueError"), (.type "Exception"), (.type "BaseException"), (.type "object")] = true)
  (i_NotAnAnswerw_initw : PySem.W.findIn K (.ref C_NotAnAnswer) "__init__" = some (some (.ref f_NotAnAnswerw_initw)))
  (l_NotAnAnswerw_initw : K.lookup f_NotAnAnswerw_initw = some ⟨oc_NotAnAnswerw_initw, od_NotAnAnswerw_initw, .func (PySem.W.ksFn "__init__" "NotAnAnswer.__init__" (defArgs s_NotAnAnswerw_initw) (defBody s_NotAnAnswerw_initw) (defScope s_NotAnAnswerw_initw) .none .none dc_NotAnAnswerw_initw pm_NotAnAnswerw_initw an_NotAnAnswerw_initw (.ref k_NotAnAnswerw_initw) ct_NotAnAnswerw_initw c_NotAnAnswerw_initw), sl_NotAnAnswerw_initw⟩)
  (cd_NotAnAnswerw_initw : PySem.W.codeIn K (.ref k_NotAnAnswerw_initw) "NotAnAnswer.__init__" = true)
  (kc_NotAnAnswerw_initw : K.lookup k_NotAnAnswerw_initw = some ⟨ccl_NotAnAnswerw_initw, cdd_NotAnAnswerw_initw, .fields vs_NotAnAnswerw_initw, ccs_NotAnAnswerw_initw⟩)
  (kv_NotAnAnswerw_initw : vs_NotAnAnswerw_initw[2]? = some (.str file_NotAnAnswerw_initw tf_NotAnAnswerw_initw))
  (kf_NotAnAnswerw_initw : (P.main.file == file_NotAnAnswerw_initw) = true)
  (cc_NotAnAnswerw_initw : K.lookup c_NotAnAnswerw_initw = some ⟨cl_NotAnAnswerw_initw, cld_NotAnAnswerw_initw, .cell (some (.ref C_NotAnAnswer)), csl_NotAnAnswerw_initw⟩)
  (kp_NotAnAnswerw_initw : PySem.W.keepIn K (.ref f_NotAnAnswerw_initw) = true)
  (ti_NotAnAnswerw_initw : PySem.W.typeIn K (.ref f_NotAnAnswerw_initw) = some (.type "function"))
  (ic_NotAnAnswerw_initw : PySem.W.isClsIn K C_NotAnAnswer = true)
  (sa_NotAnAnswerw_initw : PySem.W.findIn K (.ref C_NotAnAnswer) "__setattr__" = some (some (.builtin "object.__setattr__")))
  (ty_NotAnAnswerw_initw : PySem.W.typeIn K (.ref C_NotAnAnswer) = some (.type "type"))
  (ke_NotAnAnswerw_initw : PySem.W.keepIn K (.ref C_NotAnAnswer) = true)
  (su_NotAnAnswerw_initw : PySem.W.ks_superIn K C_NotAnAnswer C_NotAnAnswer "__init__" = some (some (.builtin "ValueError.__init__")))
  (ve_NotAnAnswerw_initw : PySem.W.subIn K (.ref C_NotAnAnswer) (.type "ValueError") = some true)
  (mr_NotAnAnswerw_initw : PySem.W.mroIn K C_NotAnAnswer (.ref C_NotAnAnswer) = some true)
  (nf_NotAnAnswer_setting : PySem.W.findIn K (.ref C_NotAnAnswer) "setting" = some none)
  (m_TooMany : PySem.W.nsIn K mainGlobals "TooMany" = some (some (.ref C_TooMany)))
  (hg_TooMany : PySem.W.findIn K (.ref C_TooMany) "__getattribute__" = some (some (.builtin "BaseException.__getattribute__")))
  (hk_TooMany : PySem.W.findIn K (.ref C_TooMany) "__getattr__" = some none)
  (hs_TooMany : PySem.W.subIn K (.ref C_TooMany) (.type "BaseException") = some true)
  (hd_TooMany : PySem.W.hasDictIn K C_TooMany = true)
  (ha_TooMany : PySem.W.findIn K (.ref C_TooMany) "__class__" = some (some (.builtin "object.__class__")))
  (hm_TooMany : PySem.W.mroIn K C_TooMany (.type "object") = some true)
  (x_TooManyw_initw : K.lookup C_TooMany = some (excClassObj nm_TooManyw_initw qn_TooManyw_initw C_TooMany Nn_TooManyw_initw bs_TooManyw_initw [(.ref C_StepError), (.type "ValueError"), (.type "Exception"), (.type "BaseException"), (.type "object")] true sn_TooManyw_initw sub_TooManyw_initw ab_TooManyw_initw col_TooManyw_initw dd_TooManyw_initw k0_TooManyw_initw k1_TooManyw_initw k2_TooManyw_initw k3_TooManyw_initw k5_TooManyw_initw "ValueError.__new__"))
  (rv_TooManyw_initw : PySem.HandSPX.refsVE [(.ref C_StepError), (.type "ValueError"), (.type "Exception"), (.type "BaseException"), (.type "object")] = true)
  (i_TooManyw_initw : PySem.W.findIn K (.ref C_TooMany) "__init__" = some (some (.ref f_TooManyw_initw)))
  (l_TooManyw_initw : K.lookup f_TooManyw_initw = some ⟨oc_TooManyw_initw, od_TooManyw_initw, .func (PySem.W.ksFn "__init__" "TooMany.__init__" (defArgs s_TooManyw_initw) (defBody s_TooManyw_initw) (defScope s_TooManyw_initw) .none .none dc_TooManyw_initw pm_TooManyw_initw an_TooManyw_initw (.ref k_TooManyw_initw) ct_TooManyw_initw c_TooManyw_initw), sl_TooManyw_initw⟩)
  (cd_TooManyw_initw : PySem.W.codeIn K (.ref k_TooManyw_initw) "TooMany.__init__" = true)
  (kc_TooManyw_initw : K.lookup k_TooManyw_initw = some ⟨ccl_TooManyw_initw, cdd_TooManyw_initw, .fields vs_TooManyw_initw, ccs_TooManyw_initw⟩)
  (kv_TooManyw_initw : vs_TooManyw_initw[2]? = some (.str file_TooManyw_initw tf_TooManyw_initw))
  (kf_TooManyw_initw : (P.main.file == file_TooManyw_initw) = true)
  (cc_TooManyw_initw : K.lookup c_TooManyw_initw = some ⟨cl_TooManyw_initw, cld_TooManyw_initw, .cell (some (.ref C_TooMany)), csl_TooManyw_initw⟩)
  (kp_TooManyw_initw : PySem.W.keepIn K (.ref f_TooManyw_initw) = true)
  (ti_TooManyw_initw : PySem.W.typeIn K (.ref f_TooManyw_initw) = some (.type "function"))
  (ic_TooManyw_initw : PySem.W.isClsIn K C_TooMany = true)
  (sa_TooManyw_initw : PySem.W.findIn K (.ref C_TooMany) "__setattr__" = some (some (.builtin "object.__setattr__")))
  (ty_TooManyw_initw : PySem.W.typeIn K (.ref C_TooMany) = some (.type "type"))
  (ke_TooManyw_initw : PySem.W.keepIn K (.ref C_TooMany) = true)
  (su_TooManyw_initw : PySem.W.ks_superIn K C_TooMany C_TooMany "__init__" = some (some (.builtin "ValueError.__init__")))
  (ve_TooManyw_initw : PySem.W.subIn K (.ref C_TooMany) (.type "ValueError") = some true)
  (mr_TooManyw_initw : PySem.W.mroIn K C_TooMany (.ref C_TooMany) = some true)
  (nf_TooMany_limit : PySem.W.findIn K (.ref C_TooMany) "limit" = some none)
  (m_World : PySem.W.nsIn K mainGlobals "World" = some (some (.ref C_World)))
  (pg_World : PySem.W.plainGet K C_World Str.empty = true)
  (hd_World : PySem.W.hasDictIn K C_World = true)
  (po_World : PySem.W.plainOver K C_World = true)
  (sa_World : PySem.W.findIn K (.ref C_World) "__setattr__" = some (some (.builtin "object.__setattr__")))
  (ha_World : PySem.W.findIn K (.ref C_World) "__class__" = some (some (.builtin "object.__class__")))
  (hm_World : PySem.W.mroIn K C_World (.type "object") = some true)
  (na_World_size : PySem.W.findIn K (.ref C_World) "size" = some none)
  (m_Kind : PySem.W.nsIn K mainGlobals "Kind" = some (some (.ref C_Kind)))
  (pg_Kind : PySem.W.plainGet K C_Kind Str.empty = true)
  (hd_Kind : PySem.W.hasDictIn K C_Kind = true)
  (po_Kind : PySem.W.plainOver K C_Kind = true)
  (sa_Kind : PySem.W.findIn K (.ref C_Kind) "__setattr__" = some (some (.builtin "object.__setattr__")))
  (ha_Kind : PySem.W.findIn K (.ref C_Kind) "__class__" = some (some (.builtin "object.__class__")))
  (hm_Kind : PySem.W.mroIn K C_Kind (.type "object") = some true)
  (na_Kind_name : PySem.W.findIn K (.ref C_Kind) "name" = some none)
  (na_Kind_width : PySem.W.findIn K (.ref C_Kind) "width" = some none)
  (na_Kind_tuples : PySem.W.findIn K (.ref C_Kind) "tuples" = some none)
  (na_Kind_grouped : PySem.W.findIn K (.ref C_Kind) "grouped" = some none)
  (m_Rules : PySem.W.nsIn K mainGlobals "Rules" = some (some (.ref C_Rules)))
  (pg_Rules : PySem.W.plainGet K C_Rules Str.empty = true)
  (hd_Rules : PySem.W.hasDictIn K C_Rules = true)
  (po_Rules : PySem.W.plainOver K C_Rules = true)
  (sa_Rules : PySem.W.findIn K (.ref C_Rules) "__setattr__" = some (some (.builtin "object.__setattr__")))
  (ha_Rules : PySem.W.findIn K (.ref C_Rules) "__class__" = some (some (.builtin "object.__class__")))
  (hm_Rules : PySem.W.mroIn K C_Rules (.type "object") = some true)
  (na_Rules_rules : PySem.W.findIn K (.ref C_Rules) "rules" = some none)
  (na_Rules_on_letter : PySem.W.findIn K (.ref C_Rules) "on_letter" = some none)
  (na_Rules_size : PySem.W.findIn K (.ref C_Rules) "size" = some none)
  (m_is_binary : PySem.W.nsIn K mainGlobals "is_binary" = some (some (.ref f_is_binary)))
  (l_is_binary : K.lookup f_is_binary = some ⟨oc_is_binary, od_is_binary, .func (PySem.W.fnOf "is_binary" "is_binary" (defArgs s_is_binary) (defBody s_is_binary) (defScope s_is_binary) .none kV_is_binary dc_is_binary pm_is_binary an_is_binary cd_is_binary ct_is_binary), sl_is_binary⟩)
  (c_is_binary : PySem.W.codeIn K cd_is_binary "is_binary" = true)
  (k_is_binary : PySem.W.keepIn K (.ref f_is_binary) = true)
  (m_flipped : PySem.W.nsIn K mainGlobals "flipped" = some (some (.ref f_flipped)))
  (l_flipped : K.lookup f_flipped = some ⟨oc_flipped, od_flipped, .func (PySem.W.fnOf "flipped" "flipped" (defArgs s_flipped) (defBody s_flipped) (defScope s_flipped) .none kV_flipped dc_flipped pm_flipped an_flipped cd_flipped ct_flipped), sl_flipped⟩)
  (c_flipped : PySem.W.codeIn K cd_flipped "flipped" = true)
  (k_flipped : PySem.W.keepIn K (.ref f_flipped) = true)
  (m_all_binary : PySem.W.nsIn K mainGlobals "all_binary" = some (some (.ref f_all_binary)))
  (l_all_binary : K.lookup f_all_binary = some ⟨oc_all_binary, od_all_binary, .func (PySem.W.fnOf "all_binary" "all_binary" (defArgs s_all_binary) (defBody s_all_binary) (defScope s_all_binary) .none kV_all_binary dc_all_binary pm_all_binary an_all_binary cd_all_binary ct_all_binary), sl_all_binary⟩)
  (c_all_binary : PySem.W.codeIn K cd_all_binary "all_binary" = true)
  (k_all_binary : PySem.W.keepIn K (.ref f_all_binary) = true)
  (m_is_name : PySem.W.nsIn K mainGlobals "is_name" = some (some (.ref f_is_name)))
  (l_is_name : K.lookup f_is_name = some ⟨oc_is_name, od_is_name, .func (PySem.W.fnOf "is_name" "is_name" (defArgs s_is_name) (defBody s_is_name) (defScope s_is_name) .none kV_is_name dc_is_name pm_is_name an_is_name cd_is_name ct_is_name), sl_is_name⟩)
  (c_is_name : PySem.W.codeIn K cd_is_name "is_name" = true)
  (k_is_name : PySem.W.keepIn K (.ref f_is_name) = true)
  (me_Worldw_initw : PySem.W.findIn K (.ref C_World) "__init__" = some (some (.ref f_Worldw_initw)))
  (l_Worldw_initw : K.lookup f_Worldw_initw = some ⟨oc_Worldw_initw, od_Worldw_initw, .func (PySem.W.fnOf "__init__" "World.__init__" (defArgs s_Worldw_initw) (defBody s_Worldw_initw) (defScope s_Worldw_initw) .none kV_Worldw_initw dc_Worldw_initw pm_Worldw_initw an_Worldw_initw cd_Worldw_initw ct_Worldw_initw), sl_Worldw_initw⟩)
  (c_Worldw_initw : PySem.W.codeIn K cd_Worldw_initw "World.__init__" = true)
  (k_Worldw_initw : PySem.W.keepIn K (.ref f_Worldw_initw) = true)
  (fn_Worldw_initw : PySem.W.isFn K (.ref f_Worldw_initw) = true)
  (mk_World : PySem.W.makesIn K C_World = true)
  (kc_World : PySem.W.keepIn K (.ref C_World) = true)
  (me_World_is_answer : PySem.W.findIn K (.ref C_World) "is_answer" = some (some (.ref f_World_is_answer)))
  (l_World_is_answer : K.lookup f_World_is_answer = some ⟨oc_World_is_answer, od_World_is_answer, .func (PySem.W.fnOf "is_answer" "World.is_answer" (defArgs s_World_is_answer) (defBody s_World_is_answer) (defScope s_World_is_answer) .none kV_World_is_answer dc_World_is_answer pm_World_is_answer an_World_is_answer cd_World_is_answer ct_World_is_answer), sl_World_is_answer⟩)
  (c_World_is_answer : PySem.W.codeIn K cd_World_is_answer "World.is_answer" = true)
  (k_World_is_answer : PySem.W.keepIn K (.ref f_World_is_answer) = true)
  (fn_World_is_answer : PySem.W.isFn K (.ref f_World_is_answer) = true)
  (m_check_answer : PySem.W.nsIn K mainGlobals "check_answer" = some (some (.ref f_check_answer)))
  (l_check_answer : K.lookup f_check_answer = some ⟨oc_check_answer, od_check_answer, .func (PySem.W.fnOf "check_answer" "check_answer" (defArgs s_check_answer) (defBody s_check_answer) (defScope s_check_answer) .none kV_check_answer dc_check_answer pm_check_answer an_check_answer cd_check_answer ct_check_answer), sl_check_answer⟩)
  (c_check_answer : PySem.W.codeIn K cd_check_answer "check_answer" = true)
  (k_check_answer : PySem.W.keepIn K (.ref f_check_answer) = true)
  (m_any_order : PySem.W.nsIn K mainGlobals "any_order" = some (some (.ref f_any_order)))
  (l_any_order : K.lookup f_any_order = some ⟨oc_any_order, od_any_order, .func (PySem.W.fnOf "any_order" "any_order" (defArgs s_any_order) (defBody s_any_order) (defScope s_any_order) .none kV_any_order dc_any_order pm_any_order an_any_order cd_any_order ct_any_order), sl_any_order⟩)
  (c_any_order : PySem.W.codeIn K cd_any_order "any_order" = true)
  (k_any_order : PySem.W.keepIn K (.ref f_any_order) = true)
  (me_Kindw_initw : PySem.W.findIn K (.ref C_Kind) "__init__" = some (some (.ref f_Kindw_initw)))
  (l_Kindw_initw : K.lookup f_Kindw_initw = some ⟨oc_Kindw_initw, od_Kindw_initw, .func (PySem.W.fnOf "__init__" "Kind.__init__" (defArgs s_Kindw_initw) (defBody s_Kindw_initw) (defScope s_Kindw_initw) .none kV_Kindw_initw dc_Kindw_initw pm_Kindw_initw an_Kindw_initw cd_Kindw_initw ct_Kindw_initw), sl_Kindw_initw⟩)
  (c_Kindw_initw : PySem.W.codeIn K cd_Kindw_initw "Kind.__init__" = true)
  (k_Kindw_initw : PySem.W.keepIn K (.ref f_Kindw_initw) = true)
  (fn_Kindw_initw : PySem.W.isFn K (.ref f_Kindw_initw) = true)
  (mk_Kind : PySem.W.makesIn K C_Kind = true)
  (kc_Kind : PySem.W.keepIn K (.ref C_Kind) = true)
  (me_Kindw_containsw : PySem.W.findIn K (.ref C_Kind) "__contains__" = some (some (.ref f_Kindw_containsw)))
  (l_Kindw_containsw : K.lookup f_Kindw_containsw = some ⟨oc_Kindw_containsw, od_Kindw_containsw, .func (PySem.W.fnOf "__contains__" "Kind.__contains__" (defArgs s_Kindw_containsw) (defBody s_Kindw_containsw) (defScope s_Kindw_containsw) .none kV_Kindw_containsw dc_Kindw_containsw pm_Kindw_containsw an_Kindw_containsw cd_Kindw_containsw ct_Kindw_containsw), sl_Kindw_containsw⟩)
  (c_Kindw_containsw : PySem.W.codeIn K cd_Kindw_containsw "Kind.__contains__" = true)
  (k_Kindw_containsw : PySem.W.keepIn K (.ref f_Kindw_containsw) = true)
  (fn_Kindw_containsw : PySem.W.isFn K (.ref f_Kindw_containsw) = true)
  (me_Kindw_andw : PySem.W.findIn K (.ref C_Kind) "__and__" = some (some (.ref f_Kindw_andw)))
  (l_Kindw_andw : K.lookup f_Kindw_andw = some ⟨oc_Kindw_andw, od_Kindw_andw, .func (PySem.W.fnOf "__and__" "Kind.__and__" (defArgs s_Kindw_andw) (defBody s_Kindw_andw) (defScope s_Kindw_andw) .none kV_Kindw_andw dc_Kindw_andw pm_Kindw_andw an_Kindw_andw cd_Kindw_andw ct_Kindw_andw), sl_Kindw_andw⟩)
  (c_Kindw_andw : PySem.W.codeIn K cd_Kindw_andw "Kind.__and__" = true)
  (k_Kindw_andw : PySem.W.keepIn K (.ref f_Kindw_andw) = true)
  (fn_Kindw_andw : PySem.W.isFn K (.ref f_Kindw_andw) = true)
  (sf_Kind : PySem.W.selfFirst K C_Kind = true)
  (me_Kindw_orw : PySem.W.findIn K (.ref C_Kind) "__or__" = some (some (.ref f_Kindw_orw)))
  (l_Kindw_orw : K.lookup f_Kindw_orw = some ⟨oc_Kindw_orw, od_Kindw_orw, .func (PySem.W.fnOf "__or__" "Kind.__or__" (defArgs s_Kindw_orw) (defBody s_Kindw_orw) (defScope s_Kindw_orw) .none kV_Kindw_orw dc_Kindw_orw pm_Kindw_orw an_Kindw_orw cd_Kindw_orw ct_Kindw_orw), sl_Kindw_orw⟩)
  (c_Kindw_orw : PySem.W.codeIn K cd_Kindw_orw "Kind.__or__" = true)
  (k_Kindw_orw : PySem.W.keepIn K (.ref f_Kindw_orw) = true)
  (fn_Kindw_orw : PySem.W.isFn K (.ref f_Kindw_orw) = true)
  (me_Kindw_invertw : PySem.W.findIn K (.ref C_Kind) "__invert__" = some (some (.ref f_Kindw_invertw)))
  (l_Kindw_invertw : K.lookup f_Kindw_invertw = some ⟨oc_Kindw_invertw, od_Kindw_invertw, .func (PySem.W.fnOf "__invert__" "Kind.__invert__" (defArgs s_Kindw_invertw) (defBody s_Kindw_invertw) (defScope s_Kindw_invertw) .none kV_Kindw_invertw dc_Kindw_invertw pm_Kindw_invertw an_Kindw_invertw cd_Kindw_invertw ct_Kindw_invertw), sl_Kindw_invertw⟩)
  (c_Kindw_invertw : PySem.W.codeIn K cd_Kindw_invertw "Kind.__invert__" = true)
  (k_Kindw_invertw : PySem.W.keepIn K (.ref f_Kindw_invertw) = true)
  (fn_Kindw_invertw : PySem.W.isFn K (.ref f_Kindw_invertw) = true)
  (me_Kind_named : PySem.W.findIn K (.ref C_Kind) "named" = some (some (.ref f_Kind_named)))
  (l_Kind_named : K.lookup f_Kind_named = some ⟨oc_Kind_named, od_Kind_named, .func (PySem.W.fnOf "named" "Kind.named" (defArgs s_Kind_named) (defBody s_Kind_named) (defScope s_Kind_named) .none kV_Kind_named dc_Kind_named pm_Kind_named an_Kind_named cd_Kind_named ct_Kind_named), sl_Kind_named⟩)
  (c_Kind_named : PySem.W.codeIn K cd_Kind_named "Kind.named" = true)
  (k_Kind_named : PySem.W.keepIn K (.ref f_Kind_named) = true)
  (fn_Kind_named : PySem.W.isFn K (.ref f_Kind_named) = true)
  (m_check_width : PySem.W.nsIn K mainGlobals "check_width" = some (some (.ref f_check_width)))
  (l_check_width : K.lookup f_check_width = some ⟨oc_check_width, od_check_width, .func (PySem.W.fnOf "check_width" "check_width" (defArgs s_check_width) (defBody s_check_width) (defScope s_check_width) .none kV_check_width dc_check_width pm_check_width an_check_width cd_check_width ct_check_width), sl_check_width⟩)
  (c_check_width : PySem.W.codeIn K cd_check_width "check_width" = true)
  (k_check_width : PySem.W.keepIn K (.ref f_check_width) = true)
  (m_piece_around : PySem.W.nsIn K mainGlobals "piece_around" = some (some (.ref f_piece_around)))
  (l_piece_around : K.lookup f_piece_around = some ⟨oc_piece_around, od_piece_around, .func (PySem.W.fnOf "piece_around" "piece_around" (defArgs s_piece_around) (defBody s_piece_around) (defScope s_piece_around) .none kV_piece_around dc_piece_around pm_piece_around an_piece_around cd_piece_around ct_piece_around), sl_piece_around⟩)
  (c_piece_around : PySem.W.codeIn K cd_piece_around "piece_around" = true)
  (k_piece_around : PySem.W.keepIn K (.ref f_piece_around) = true)
  (m_grouped_by_piece : PySem.W.nsIn K mainGlobals "grouped_by_piece" = some (some (.ref f_grouped_by_piece)))
  (l_grouped_by_piece : K.lookup f_grouped_by_piece = some ⟨oc_grouped_by_piece, od_grouped_by_piece, .func (PySem.W.fnOf "grouped_by_piece" "grouped_by_piece" (defArgs s_grouped_by_piece) (defBody s_grouped_by_piece) (defScope s_grouped_by_piece) .none kV_grouped_by_piece dc_grouped_by_piece pm_grouped_by_piece an_grouped_by_piece cd_grouped_by_piece ct_grouped_by_piece), sl_grouped_by_piece⟩)
  (c_grouped_by_piece : PySem.W.codeIn K cd_grouped_by_piece "grouped_by_piece" = true)
  (k_grouped_by_piece : PySem.W.keepIn K (.ref f_grouped_by_piece) = true)
  (me_Rulesw_initw : PySem.W.findIn K (.ref C_Rules) "__init__" = some (some (.ref f_Rulesw_initw)))
  (fn_Rulesw_initw : PySem.W.isFn K (.ref f_Rulesw_initw) = true)
  (mk_Rules : PySem.W.makesIn K C_Rules = true)
  (kc_Rules : PySem.W.keepIn K (.ref C_Rules) = true)
  (l_Rulesw_initw : K.lookup f_Rulesw_initw = some ⟨oc_Rulesw_initw, od_Rulesw_initw, .func (PySem.W.ksFn "__init__" "Rules.__init__" (defArgs s_Rulesw_initw) (defBody s_Rulesw_initw) (defScope s_Rulesw_initw) .none .none dc_Rulesw_initw pm_Rulesw_initw an_Rulesw_initw (.ref k_Rulesw_initw) ct_Rulesw_initw c_Rulesw_initw), sl_Rulesw_initw⟩)
  (cd_Rulesw_initw : PySem.W.codeIn K (.ref k_Rulesw_initw) "Rules.__init__" = true)
  (kd_Rulesw_initw : K.lookup k_Rulesw_initw = some ⟨ccl_Rulesw_initw, cdd_Rulesw_initw, .fields vs_Rulesw_initw, ccs_Rulesw_initw⟩)
  (kv_Rulesw_initw : vs_Rulesw_initw[2]? = some (.str file_Rulesw_initw tf_Rulesw_initw))
  (kf_Rulesw_initw : (P.main.file == file_Rulesw_initw) = true)
  (cc_Rulesw_initw : K.lookup c_Rulesw_initw = some ⟨cl_Rulesw_initw, cld_Rulesw_initw, .cell (some (.ref C_Rules)), csl_Rulesw_initw⟩)
  (kp_Rulesw_initw : PySem.W.keepIn K (.ref f_Rulesw_initw) = true)
  (ic_Rulesw_initw : PySem.W.isClsIn K C_Rules = true)
  (su_Rulesw_initw : PySem.W.ks_superIn K C_Rules C_Rules "__init__" = some (some (.ref f_Worldw_initw)))
  (tb_Rulesw_initw : PySem.W.typeIn K (.ref f_Worldw_initw) = some (.type "function"))
  (mr_Rulesw_initw : PySem.W.mroIn K C_Rules (.ref C_Rules) = some true)
  (fi_Rulesw_initw : PySem.W.fnIn K f_Worldw_initw = true)
  (me_Rules_is_answer : PySem.W.findIn K (.ref C_Rules) "is_answer" = some (some (.ref f_Rules_is_answer)))
  (l_Rules_is_answer : K.lookup f_Rules_is_answer = some ⟨oc_Rules_is_answer, od_Rules_is_answer, .func (PySem.W.fnOf "is_answer" "Rules.is_answer" (defArgs s_Rules_is_answer) (defBody s_Rules_is_answer) (defScope s_Rules_is_answer) .none kV_Rules_is_answer dc_Rules_is_answer pm_Rules_is_answer an_Rules_is_answer cd_Rules_is_answer ct_Rules_is_answer), sl_Rules_is_answer⟩)
  (c_Rules_is_answer : PySem.W.codeIn K cd_Rules_is_answer "Rules.is_answer" = true)
  (k_Rules_is_answer : PySem.W.keepIn K (.ref f_Rules_is_answer) = true)
  (fn_Rules_is_answer : PySem.W.isFn K (.ref f_Rules_is_answer) = true)
  (me_Rules_at_rule : PySem.W.findIn K (.ref C_Rules) "at_rule" = some (some (.ref f_Rules_at_rule)))
  (l_Rules_at_rule : K.lookup f_Rules_at_rule = some ⟨oc_Rules_at_rule, od_Rules_at_rule, .func (PySem.W.fnOf "at_rule" "Rules.at_rule" (defArgs s_Rules_at_rule) (defBody s_Rules_at_rule) (defScope s_Rules_at_rule) .none kV_Rules_at_rule dc_Rules_at_rule pm_Rules_at_rule an_Rules_at_rule cd_Rules_at_rule ct_Rules_at_rule), sl_Rules_at_rule⟩)
  (c_Rules_at_rule : PySem.W.codeIn K cd_Rules_at_rule "Rules.at_rule" = true)
  (k_Rules_at_rule : PySem.W.keepIn K (.ref f_Rules_at_rule) = true)
  (fn_Rules_at_rule : PySem.W.isFn K (.ref f_Rules_at_rule) = true)
  (me_Rules_broken : PySem.W.findIn K (.ref C_Rules) "broken" = some (some (.ref f_Rules_broken)))
  (l_Rules_broken : K.lookup f_Rules_broken = some ⟨oc_Rules_broken, od_Rules_broken, .func (PySem.W.fnOf "broken" "Rules.broken" (defArgs s_Rules_broken) (defBody s_Rules_broken) (defScope s_Rules_broken) .none kV_Rules_broken dc_Rules_broken pm_Rules_broken an_Rules_broken cd_Rules_broken ct_Rules_broken), sl_Rules_broken⟩)
  (c_Rules_broken : PySem.W.codeIn K cd_Rules_broken "Rules.broken" = true)
  (k_Rules_broken : PySem.W.keepIn K (.ref f_Rules_broken) = true)
  (fn_Rules_broken : PySem.W.isFn K (.ref f_Rules_broken) = true)
  (m_are_letters : PySem.W.nsIn K mainGlobals "are_letters" = some (some (.ref f_are_letters)))
  (l_are_letters : K.lookup f_are_letters = some ⟨oc_are_letters, od_are_letters, .func (PySem.W.fnOf "are_letters" "are_letters" (defArgs s_are_letters) (defBody s_are_letters) (defScope s_are_letters) .none kV_are_letters dc_are_letters pm_are_letters an_are_letters cd_are_letters ct_are_letters), sl_are_letters⟩)
  (c_are_letters : PySem.W.codeIn K cd_are_letters "are_letters" = true)
  (k_are_letters : PySem.W.keepIn K (.ref f_are_letters) = true)
  (m__law_cell : PySem.W.nsIn K mainGlobals "_law_cell" = some (some (.ref f_law_cell)))
  (l_law_cell : K.lookup f_law_cell = some ⟨oc_law_cell, od_law_cell, .func (PySem.W.fnOf "_law_cell" "_law_cell" (defArgs s_law_cell) (defBody s_law_cell) (defScope s_law_cell) .none kV_law_cell dc_law_cell pm_law_cell an_law_cell cd_law_cell ct_law_cell), sl_law_cell⟩)
  (c_law_cell : PySem.W.codeIn K cd_law_cell "_law_cell" = true)
  (k_law_cell : PySem.W.keepIn K (.ref f_law_cell) = true)
  (m__law_draw : PySem.W.nsIn K mainGlobals "_law_draw" = some (some (.ref f_law_draw)))
  (l_law_draw : K.lookup f_law_draw = some ⟨oc_law_draw, od_law_draw, .func (PySem.W.fnOf "_law_draw" "_law_draw" (defArgs s_law_draw) (defBody s_law_draw) (defScope s_law_draw) .none kV_law_draw dc_law_draw pm_law_draw an_law_draw cd_law_draw ct_law_draw), sl_law_draw⟩)
  (c_law_draw : PySem.W.codeIn K cd_law_draw "_law_draw" = true)
  (k_law_draw : PySem.W.keepIn K (.ref f_law_draw) = true)
  (m__law_tuples : PySem.W.nsIn K mainGlobals "_law_tuples" = some (some (.ref f_law_tuples)))
  (l_law_tuples : K.lookup f_law_tuples = some ⟨oc_law_tuples, od_law_tuples, .func (PySem.W.fnOf "_law_tuples" "_law_tuples" (defArgs s_law_tuples) (defBody s_law_tuples) (defScope s_law_tuples) .none kV_law_tuples dc_law_tuples pm_law_tuples an_law_tuples cd_law_tuples ct_law_tuples), sl_law_tuples⟩)
  (c_law_tuples : PySem.W.codeIn K cd_law_tuples "_law_tuples" = true)
  (k_law_tuples : PySem.W.keepIn K (.ref f_law_tuples) = true)
  (m__law_picked : PySem.W.nsIn K mainGlobals "_law_picked" = some (some (.ref f_law_picked)))
  (l_law_picked : K.lookup f_law_picked = some ⟨oc_law_picked, od_law_picked, .func (PySem.W.fnOf "_law_picked" "_law_picked" (defArgs s_law_picked) (defBody s_law_picked) (defScope s_law_picked) .none kV_law_picked dc_law_picked pm_law_picked an_law_picked cd_law_picked ct_law_picked), sl_law_picked⟩)
  (c_law_picked : PySem.W.codeIn K cd_law_picked "_law_picked" = true)
  (k_law_picked : PySem.W.keepIn K (.ref f_law_picked) = true)
  (m__law_some : PySem.W.nsIn K mainGlobals "_law_some" = some (some (.ref f_law_some)))
  (l_law_some : K.lookup f_law_some = some ⟨oc_law_some, od_law_some, .func (PySem.W.fnOf "_law_some" "_law_some" (defArgs s_law_some) (defBody s_law_some) (defScope s_law_some) .none kV_law_some dc_law_some pm_law_some an_law_some cd_law_some ct_law_some), sl_law_some⟩)
  (c_law_some : PySem.W.codeIn K cd_law_some "_law_some" = true)
  (k_law_some : PySem.W.keepIn K (.ref f_law_some) = true)
  (m__law_values : PySem.W.nsIn K mainGlobals "_law_values" = some (some (.ref f_law_values)))
  (l_law_values : K.lookup f_law_values = some ⟨oc_law_values, od_law_values, .func (PySem.W.fnOf "_law_values" "_law_values" (defArgs s_law_values) (defBody s_law_values) (defScope s_law_values) .none kV_law_values dc_law_values pm_law_values an_law_values cd_law_values ct_law_values), sl_law_values⟩)
  (c_law_values : PySem.W.codeIn K cd_law_values "_law_values" = true)
  (k_law_values : PySem.W.keepIn K (.ref f_law_values) = true)
  (m__law_shown : PySem.W.nsIn K mainGlobals "_law_shown" = some (some (.ref f_law_shown)))
  (l_law_shown : K.lookup f_law_shown = some ⟨oc_law_shown, od_law_shown, .func (PySem.W.fnOf "_law_shown" "_law_shown" (defArgs s_law_shown) (defBody s_law_shown) (defScope s_law_shown) .none kV_law_shown dc_law_shown pm_law_shown an_law_shown cd_law_shown ct_law_shown), sl_law_shown⟩)
  (c_law_shown : PySem.W.codeIn K cd_law_shown "_law_shown" = true)
  (k_law_shown : PySem.W.keepIn K (.ref f_law_shown) = true)
  (m__law_rule : PySem.W.nsIn K mainGlobals "_law_rule" = some (some (.ref f_law_rule)))
  (l_law_rule : K.lookup f_law_rule = some ⟨oc_law_rule, od_law_rule, .func (PySem.W.fnOf "_law_rule" "_law_rule" (defArgs s_law_rule) (defBody s_law_rule) (defScope s_law_rule) .none kV_law_rule dc_law_rule pm_law_rule an_law_rule cd_law_rule ct_law_rule), sl_law_rule⟩)
  (c_law_rule : PySem.W.codeIn K cd_law_rule "_law_rule" = true)
  (k_law_rule : PySem.W.keepIn K (.ref f_law_rule) = true)
  (m__law_keeps : PySem.W.nsIn K mainGlobals "_law_keeps" = some (some (.ref f_law_keeps)))
  (l_law_keeps : K.lookup f_law_keeps = some ⟨oc_law_keeps, od_law_keeps, .func (PySem.W.fnOf "_law_keeps" "_law_keeps" (defArgs s_law_keeps) (defBody s_law_keeps) (defScope s_law_keeps) .none kV_law_keeps dc_law_keeps pm_law_keeps an_law_keeps cd_law_keeps ct_law_keeps), sl_law_keeps⟩)
  (c_law_keeps : PySem.W.codeIn K cd_law_keeps "_law_keeps" = true)
  (k_law_keeps : PySem.W.keepIn K (.ref f_law_keeps) = true)
  (m__law_due : PySem.W.nsIn K mainGlobals "_law_due" = some (some (.ref f_law_due)))
  (l_law_due : K.lookup f_law_due = some ⟨oc_law_due, od_law_due, .func (PySem.W.fnOf "_law_due" "_law_due" (defArgs s_law_due) (defBody s_law_due) (defScope s_law_due) .none kV_law_due dc_law_due pm_law_due an_law_due cd_law_due ct_law_due), sl_law_due⟩)
  (c_law_due : PySem.W.codeIn K cd_law_due "_law_due" = true)
  (k_law_due : PySem.W.keepIn K (.ref f_law_due) = true)
  (m__law_world : PySem.W.nsIn K mainGlobals "_law_world" = some (some (.ref f_law_world)))
  (l_law_world : K.lookup f_law_world = some ⟨oc_law_world, od_law_world, .func (PySem.W.fnOf "_law_world" "_law_world" (defArgs s_law_world) (defBody s_law_world) (defScope s_law_world) .none kV_law_world dc_law_world pm_law_world an_law_world cd_law_world ct_law_world), sl_law_world⟩)
  (c_law_world : PySem.W.codeIn K cd_law_world "_law_world" = true)
  (k_law_world : PySem.W.keepIn K (.ref f_law_world) = true)
  (m__law_told : PySem.W.nsIn K mainGlobals "_law_told" = some (some (.ref f_law_told)))
  (l_law_told : K.lookup f_law_told = some ⟨oc_law_told, od_law_told, .func (PySem.W.fnOf "_law_told" "_law_told" (defArgs s_law_told) (defBody s_law_told) (defScope s_law_told) .none kV_law_told dc_law_told pm_law_told an_law_told cd_law_told ct_law_told), sl_law_told⟩)
  (c_law_told : PySem.W.codeIn K cd_law_told "_law_told" = true)
  (k_law_told : PySem.W.keepIn K (.ref f_law_told) = true)
  (m__law_refused : PySem.W.nsIn K mainGlobals "_law_refused" = some (some (.ref f_law_refused)))
  (l_law_refused : K.lookup f_law_refused = some ⟨oc_law_refused, od_law_refused, .func (PySem.W.fnOf "_law_refused" "_law_refused" (defArgs s_law_refused) (defBody s_law_refused) (defScope s_law_refused) .none kV_law_refused dc_law_refused pm_law_refused an_law_refused cd_law_refused ct_law_refused), sl_law_refused⟩)
  (c_law_refused : PySem.W.codeIn K cd_law_refused "_law_refused" = true)
  (k_law_refused : PySem.W.keepIn K (.ref f_law_refused) = true)
  (m__law_wrong_settings : PySem.W.nsIn K mainGlobals "_law_wrong_settings" = some (some (.ref f_law_wrong_settings)))
  (l_law_wrong_settings : K.lookup f_law_wrong_settings = some ⟨oc_law_wrong_settings, od_law_wrong_settings, .func (PySem.W.fnOf "_law_wrong_settings" "_law_wrong_settings" (defArgs s_law_wrong_settings) (defBody s_law_wrong_settings) (defScope s_law_wrong_settings) .none kV_law_wrong_settings dc_law_wrong_settings pm_law_wrong_settings an_law_wrong_settings cd_law_wrong_settings ct_law_wrong_settings), sl_law_wrong_settings⟩)
  (c_law_wrong_settings : PySem.W.codeIn K cd_law_wrong_settings "_law_wrong_settings" = true)
  (k_law_wrong_settings : PySem.W.keepIn K (.ref f_law_wrong_settings) = true)
  (m_law : PySem.W.nsIn K mainGlobals "law" = some (some (.ref f_law)))
  (l_law : K.lookup f_law = some ⟨oc_law, od_law, .func (PySem.W.fnOf "law" "law" (defArgs s_law) (defBody s_law) (defScope s_law) .none kV_law dc_law pm_law an_law cd_law ct_law), sl_law⟩)
  (c_law : PySem.W.codeIn K cd_law "law" = true)
  (k_law : PySem.W.keepIn K (.ref f_law) = true)
  (cr1_Rules : PySem.W.readsIn K C_Rules (.type "type") = true)
  (cr2_Rules : PySem.W.specialIn K (.ref C_Rules) "__getattribute__" = some (some (.builtin "type.__getattribute__")))
  (cv_Rules_MOST_LETTERS : PySem.W.findCls K (.ref C_Rules) (.type "type") "MOST_LETTERS" = some (.val (.int 14 t_Rules_MOST_LETTERS)))
  (cv_Rules_MOST_RULES : PySem.W.findCls K (.ref C_Rules) (.type "type") "MOST_RULES" = some (.val (.int 80 t_Rules_MOST_RULES)))
  (hcn : PySem.W.specialIn K (.builtin "object.__class__") "__get__" = some (some (.builtin "getset_descriptor.__get__")))
  (hct : PySem.W.takesIn K (.builtin "object.__class__") = some true)
  (hop : PySem.W.nsIn K PySem.cStatics "thirdparty.any" = some none)
  (htop : (P.main.scope.names.lookup ("super" : Str)).isSome = false)
  (kit_NotAnAnswer_TooMany : PySem.W.kitOne K (.ref C_NotAnAnswer) (.ref C_TooMany) = some false)
  (kit_NotAnAnswer_StepError : PySem.W.kitOne K (.ref C_NotAnAnswer) (.ref C_StepError) = some true)
  (kit_NotAnAnswer_ValueError : PySem.W.kitOne K (.ref C_NotAnAnswer) (.type "ValueError") = some true)
  (kit_TooMany_StepError : PySem.W.kitOne K (.ref C_TooMany) (.ref C_StepError) = some true)
  (kit_TooMany_ValueError : PySem.W.kitOne K (.ref C_TooMany) (.type "ValueError") = some true)
  (exm_NotAnAnswer_NotAnAnswer : PySem.W.exmOne K (.ref C_NotAnAnswer) (.ref C_NotAnAnswer) = some true)
  (exm_TooMany_NotAnAnswer : PySem.W.exmOne K (.ref C_TooMany) (.ref C_NotAnAnswer) = some false)
  (exm_TooMany_TooMany : PySem.W.exmOne K (.ref C_TooMany) (.ref C_TooMany) = some true) :
  Txt P K mg ⟨C_StepError, C_BadKind, f_BadKindw_initw, (PySem.W.ksFn "__init__" "BadKind.__init__" (defArgs s_BadKindw_initw) (defBody s_BadKindw_initw) (defScope s_BadKindw_initw) .none .none dc_BadKindw_initw pm_BadKindw_initw an_BadKindw_initw (.ref k_BadKindw_initw) ct_BadKindw_initw c_BadKindw_initw), k_BadKindw_initw, c_BadKindw_initw, C_BadRule, f_BadRulew_initw, (PySem.W.ksFn "__init__" "BadRule.__init__" (defArgs s_BadRulew_initw) (defBody s_BadRulew_initw) (defScope s_BadRulew_initw) .none .none dc_BadRulew_initw pm_BadRulew_initw an_BadRulew_initw (.ref k_BadRulew_initw) ct_BadRulew_initw c_BadRulew_initw), k_BadRulew_initw, c_BadRulew_initw, C_NotAnAnswer, f_NotAnAnswerw_initw, (PySem.W.ksFn "__init__" "NotAnAnswer.__init__" (defArgs s_NotAnAnswerw_initw) (defBody s_NotAnAnswerw_initw) (defScope s_NotAnAnswerw_initw) .none .none dc_NotAnAnswerw_initw pm_NotAnAnswerw_initw an_NotAnAnswerw_initw (.ref k_NotAnAnswerw_initw) ct_NotAnAnswerw_initw c_NotAnAnswerw_initw), k_NotAnAnswerw_initw, c_NotAnAnswerw_initw, C_TooMany, f_TooManyw_initw, (PySem.W.ksFn "__init__" "TooMany.__init__" (defArgs s_TooManyw_initw) (defBody s_TooManyw_initw) (defScope s_TooManyw_initw) .none .none dc_TooManyw_initw pm_TooManyw_initw an_TooManyw_initw (.ref k_TooManyw_initw) ct_TooManyw_initw c_TooManyw_initw), k_TooManyw_initw, c_TooManyw_initw, C_World, C_Kind, C_Rules, f_is_binary, (PySem.W.fnOf "is_binary" "is_binary" (defArgs s_is_binary) (defBody s_is_binary) (defScope s_is_binary) .none kV_is_binary dc_is_binary pm_is_binary an_is_binary cd_is_binary ct_is_binary), f_flipped, (PySem.W.fnOf "flipped" "flipped" (defArgs s_flipped) (defBody s_flipped) (defScope s_flipped) .none kV_flipped dc_flipped pm_flipped an_flipped cd_flipped ct_flipped), f_all_binary, (PySem.W.fnOf "all_binary" "all_binary" (defArgs s_all_binary) (defBody s_all_binary) (defScope s_all_binary) .none kV_all_binary dc_all_binary pm_all_binary an_all_binary cd_all_binary ct_all_binary), f_is_name, (PySem.W.fnOf "is_name" "is_name" (defArgs s_is_name) (defBody s_is_name) (defScope s_is_name) .none kV_is_name dc_is_name pm_is_name an_is_name cd_is_name ct_is_name), f_Worldw_initw, (PySem.W.fnOf "__init__" "World.__init__" (defArgs s_Worldw_initw) (defBody s_Worldw_initw) (defScope s_Worldw_initw) .none kV_Worldw_initw dc_Worldw_initw pm_Worldw_initw an_Worldw_initw cd_Worldw_initw ct_Worldw_initw), f_World_is_answer, (PySem.W.fnOf "is_answer" "World.is_answer" (defArgs s_World_is_answer) (defBody s_World_is_answer) (defScope s_World_is_answer) .none kV_World_is_answer dc_World_is_answer pm_World_is_answer an_World_is_answer cd_World_is_answer ct_World_is_answer), f_check_answer, (PySem.W.fnOf "check_answer" "check_answer" (defArgs s_check_answer) (defBody s_check_answer) (defScope s_check_answer) .none kV_check_answer dc_check_answer pm_check_answer an_check_answer cd_check_answer ct_check_answer), f_any_order, (PySem.W.fnOf "any_order" "any_order" (defArgs s_any_order) (defBody s_any_order) (defScope s_any_order) .none kV_any_order dc_any_order pm_any_order an_any_order cd_any_order ct_any_order), f_Kindw_initw, (PySem.W.fnOf "__init__" "Kind.__init__" (defArgs s_Kindw_initw) (defBody s_Kindw_initw) (defScope s_Kindw_initw) .none kV_Kindw_initw dc_Kindw_initw pm_Kindw_initw an_Kindw_initw cd_Kindw_initw ct_Kindw_initw), f_Kindw_containsw, (PySem.W.fnOf "__contains__" "Kind.__contains__" (defArgs s_Kindw_containsw) (defBody s_Kindw_containsw) (defScope s_Kindw_containsw) .none kV_Kindw_containsw dc_Kindw_containsw pm_Kindw_containsw an_Kindw_containsw cd_Kindw_containsw ct_Kindw_containsw), f_Kindw_andw, (PySem.W.fnOf "__and__" "Kind.__and__" (defArgs s_Kindw_andw) (defBody s_Kindw_andw) (defScope s_Kindw_andw) .none kV_Kindw_andw dc_Kindw_andw pm_Kindw_andw an_Kindw_andw cd_Kindw_andw ct_Kindw_andw), f_Kindw_orw, (PySem.W.fnOf "__or__" "Kind.__or__" (defArgs s_Kindw_orw) (defBody s_Kindw_orw) (defScope s_Kindw_orw) .none kV_Kindw_orw dc_Kindw_orw pm_Kindw_orw an_Kindw_orw cd_Kindw_orw ct_Kindw_orw), f_Kindw_invertw, (PySem.W.fnOf "__invert__" "Kind.__invert__" (defArgs s_Kindw_invertw) (defBody s_Kindw_invertw) (defScope s_Kindw_invertw) .none kV_Kindw_invertw dc_Kindw_invertw pm_Kindw_invertw an_Kindw_invertw cd_Kindw_invertw ct_Kindw_invertw), f_Kind_named, (PySem.W.fnOf "named" "Kind.named" (defArgs s_Kind_named) (defBody s_Kind_named) (defScope s_Kind_named) .none kV_Kind_named dc_Kind_named pm_Kind_named an_Kind_named cd_Kind_named ct_Kind_named), f_check_width, (PySem.W.fnOf "check_width" "check_width" (defArgs s_check_width) (defBody s_check_width) (defScope s_check_width) .none kV_check_width dc_check_width pm_check_width an_check_width cd_check_width ct_check_width), f_piece_around, (PySem.W.fnOf "piece_around" "piece_around" (defArgs s_piece_around) (defBody s_piece_around) (defScope s_piece_around) .none kV_piece_around dc_piece_around pm_piece_around an_piece_around cd_piece_around ct_piece_around), f_grouped_by_piece, (PySem.W.fnOf "grouped_by_piece" "grouped_by_piece" (defArgs s_grouped_by_piece) (defBody s_grouped_by_piece) (defScope s_grouped_by_piece) .none kV_grouped_by_piece dc_grouped_by_piece pm_grouped_by_piece an_grouped_by_piece cd_grouped_by_piece ct_grouped_by_piece), f_Rulesw_initw, (PySem.W.ksFn "__init__" "Rules.__init__" (defArgs s_Rulesw_initw) (defBody s_Rulesw_initw) (defScope s_Rulesw_initw) .none .none dc_Rulesw_initw pm_Rulesw_initw an_Rulesw_initw (.ref k_Rulesw_initw) ct_Rulesw_initw c_Rulesw_initw), k_Rulesw_initw, c_Rulesw_initw, f_Rules_is_answer, (PySem.W.fnOf "is_answer" "Rules.is_answer" (defArgs s_Rules_is_answer) (defBody s_Rules_is_answer) (defScope s_Rules_is_answer) .none kV_Rules_is_answer dc_Rules_is_answer pm_Rules_is_answer an_Rules_is_answer cd_Rules_is_answer ct_Rules_is_answer), f_Rules_at_rule, (PySem.W.fnOf "at_rule" "Rules.at_rule" (defArgs s_Rules_at_rule) (defBody s_Rules_at_rule) (defScope s_Rules_at_rule) .none kV_Rules_at_rule dc_Rules_at_rule pm_Rules_at_rule an_Rules_at_rule cd_Rules_at_rule ct_Rules_at_rule), f_Rules_broken, (PySem.W.fnOf "broken" "Rules.broken" (defArgs s_Rules_broken) (defBody s_Rules_broken) (defScope s_Rules_broken) .none kV_Rules_broken dc_Rules_broken pm_Rules_broken an_Rules_broken cd_Rules_broken ct_Rules_broken), f_are_letters, (PySem.W.fnOf "are_letters" "are_letters" (defArgs s_are_letters) (defBody s_are_letters) (defScope s_are_letters) .none kV_are_letters dc_are_letters pm_are_letters an_are_letters cd_are_letters ct_are_letters), f_law_cell, (PySem.W.fnOf "_law_cell" "_law_cell" (defArgs s_law_cell) (defBody s_law_cell) (defScope s_law_cell) .none kV_law_cell dc_law_cell pm_law_cell an_law_cell cd_law_cell ct_law_cell), f_law_draw, (PySem.W.fnOf "_law_draw" "_law_draw" (defArgs s_law_draw) (defBody s_law_draw) (defScope s_law_draw) .none kV_law_draw dc_law_draw pm_law_draw an_law_draw cd_law_draw ct_law_draw), f_law_tuples, (PySem.W.fnOf "_law_tuples" "_law_tuples" (defArgs s_law_tuples) (defBody s_law_tuples) (defScope s_law_tuples) .none kV_law_tuples dc_law_tuples pm_law_tuples an_law_tuples cd_law_tuples ct_law_tuples), f_law_picked, (PySem.W.fnOf "_law_picked" "_law_picked" (defArgs s_law_picked) (defBody s_law_picked) (defScope s_law_picked) .none kV_law_picked dc_law_picked pm_law_picked an_law_picked cd_law_picked ct_law_picked), f_law_some, (PySem.W.fnOf "_law_some" "_law_some" (defArgs s_law_some) (defBody s_law_some) (defScope s_law_some) .none kV_law_some dc_law_some pm_law_some an_law_some cd_law_some ct_law_some), f_law_values, (PySem.W.fnOf "_law_values" "_law_values" (defArgs s_law_values) (defBody s_law_values) (defScope s_law_values) .none kV_law_values dc_law_values pm_law_values an_law_values cd_law_values ct_law_values), f_law_shown, (PySem.W.fnOf "_law_shown" "_law_shown" (defArgs s_law_shown) (defBody s_law_shown) (defScope s_law_shown) .none kV_law_shown dc_law_shown pm_law_shown an_law_shown cd_law_shown ct_law_shown), f_law_rule, (PySem.W.fnOf "_law_rule" "_law_rule" (defArgs s_law_rule) (defBody s_law_rule) (defScope s_law_rule) .none kV_law_rule dc_law_rule pm_law_rule an_law_rule cd_law_rule ct_law_rule), f_law_keeps, (PySem.W.fnOf "_law_keeps" "_law_keeps" (defArgs s_law_keeps) (defBody s_law_keeps) (defScope s_law_keeps) .none kV_law_keeps dc_law_keeps pm_law_keeps an_law_keeps cd_law_keeps ct_law_keeps), f_law_due, (PySem.W.fnOf "_law_due" "_law_due" (defArgs s_law_due) (defBody s_law_due) (defScope s_law_due) .none kV_law_due dc_law_due pm_law_due an_law_due cd_law_due ct_law_due), f_law_world, (PySem.W.fnOf "_law_world" "_law_world" (defArgs s_law_world) (defBody s_law_world) (defScope s_law_world) .none kV_law_world dc_law_world pm_law_world an_law_world cd_law_world ct_law_world), f_law_told, (PySem.W.fnOf "_law_told" "_law_told" (defArgs s_law_told) (defBody s_law_told) (defScope s_law_told) .none kV_law_told dc_law_told pm_law_told an_law_told cd_law_told ct_law_told), f_law_refused, (PySem.W.fnOf "_law_refused" "_law_refused" (defArgs s_law_refused) (defBody s_law_refused) (defScope s_law_refused) .none kV_law_refused dc_law_refused pm_law_refused an_law_refused cd_law_refused ct_law_refused), f_law_wrong_settings, (PySem.W.fnOf "_law_wrong_settings" "_law_wrong_settings" (defArgs s_law_wrong_settings) (defBody s_law_wrong_settings) (defScope s_law_wrong_settings) .none kV_law_wrong_settings dc_law_wrong_settings pm_law_wrong_settings an_law_wrong_settings cd_law_wrong_settings ct_law_wrong_settings), f_law, (PySem.W.fnOf "law" "law" (defArgs s_law) (defBody s_law) (defScope s_law) .none kV_law dc_law pm_law an_law cd_law ct_law)⟩ := {
    z_ValueError := PySem.W.mg_none_of X G z_ValueError,
    z_all := PySem.W.mg_none_of X G z_all,
    z_bool := PySem.W.mg_none_of X G z_bool,
    z_enumerate := PySem.W.mg_none_of X G z_enumerate,
    z_int := PySem.W.mg_none_of X G z_int,
    z_isinstance := PySem.W.mg_none_of X G z_isinstance,
    z_len := PySem.W.mg_none_of X G z_len,
    z_list := PySem.W.mg_none_of X G z_list,
    z_min := PySem.W.mg_none_of X G z_min,
    z_range := PySem.W.mg_none_of X G z_range,
    z_set := PySem.W.mg_none_of X G z_set,
    z_sorted := PySem.W.mg_none_of X G z_sorted,
    z_super := PySem.W.mg_none_of X G z_super,
    z_tuple := PySem.W.mg_none_of X G z_tuple,
    z_zip := PySem.W.mg_none_of X G z_zip,
    m_MOST_AT_ONCE := ⟨_, PySem.W.mg_of X G m_MOST_AT_ONCE⟩,
    m_MOST_WIDTH := ⟨_, PySem.W.mg_of X G m_MOST_WIDTH⟩,
    m_StepError := PySem.W.mg_of X G m_StepError,
    xc_StepError := ⟨hg_StepError, hk_StepError, hs_StepError, hd_StepError, ha_StepError, hcn, hct, hm_StepError⟩,
    xf_StepError := ⟨hg_StepError, hk_StepError, hs_StepError, hd_StepError⟩,
    m_BadKind := PySem.W.mg_of X G m_BadKind,
    xc_BadKind := ⟨hg_BadKind, hk_BadKind, hs_BadKind, hd_BadKind, ha_BadKind, hcn, hct, hm_BadKind⟩,
    xf_BadKind := ⟨hg_BadKind, hk_BadKind, hs_BadKind, hd_BadKind⟩,
    F_BadKindw_initw := ⟨⟨_, _, _, _, _, _, _, _, rfl, l_BadKindw_initw, cd_BadKindw_initw⟩, ⟨_, _, _, _, _, _, kc_BadKindw_initw, kv_BadKindw_initw, kf_BadKindw_initw⟩, ⟨_, _, _, cc_BadKindw_initw⟩, ic_BadKindw_initw, PySem.W.mg_none_of X G z_super, htop, ⟨_, rfl, rfl⟩, kp_BadKindw_initw⟩,
    S_BadKindw_initw := ⟨⟨⟨_, _, _, _, _, _, _, _, _, _, _, _, _, _, _, x_BadKindw_initw, rv_BadKindw_initw⟩, sa_BadKindw_initw, hs_BadKind, ty_BadKindw_initw, ke_BadKindw_initw⟩, su_BadKindw_initw, ve_BadKindw_initw, mr_BadKindw_initw, hop⟩,
    b_BadKindw_initw := Binds.all fun us hl => match us, hl with | [_, _], _ => rfl,
    i_BadKindw_initw := i_BadKindw_initw,
    ti_BadKindw_initw := ti_BadKindw_initw,
    nf_BadKind_index := nf_BadKind_index,
    m_BadRule := PySem.W.mg_of X G m_BadRule,
    xc_BadRule := ⟨hg_BadRule, hk_BadRule, hs_BadRule, hd_BadRule, ha_BadRule, hcn, hct, hm_BadRule⟩,
    xf_BadRule := ⟨hg_BadRule, hk_BadRule, hs_BadRule, hd_BadRule⟩,
    F_BadRulew_initw := ⟨⟨_, _, _, _, _, _, _, _, rfl, l_BadRulew_initw, cd_BadRulew_initw⟩, ⟨_, _, _, _, _, _, kc_BadRulew_initw, kv_BadRulew_initw, kf_BadRulew_initw⟩, ⟨_, _, _, cc_BadRulew_initw⟩, ic_BadRulew_initw, PySem.W.mg_none_of X G z_super, htop, ⟨_, rfl, rfl⟩, kp_BadRulew_initw⟩,
    S_BadRulew_initw := ⟨⟨⟨_, _, _, _, _, _, _, _, _, _, _, _, _, _, _, x_BadRulew_initw, rv_BadRulew_initw⟩, sa_BadRulew_initw, hs_BadRule, ty_BadRulew_initw, ke_BadRulew_initw⟩, su_BadRulew_initw, ve_BadRulew_initw, mr_BadRulew_initw, hop⟩,
    b_BadRulew_initw := Binds.all fun us hl => match us, hl with | [_, _], _ => rfl,
    i_BadRulew_initw := i_BadRulew_initw,
    ti_BadRulew_initw := ti_BadRulew_initw,
    nf_BadRule_index := nf_BadRule_index,
    m_NotAnAnswer := PySem.W.mg_of X G m_NotAnAnswer,
    xc_NotAnAnswer := ⟨hg_NotAnAnswer, hk_NotAnAnswer, hs_NotAnAnswer, hd_NotAnAnswer, ha_NotAnAnswer, hcn, hct, hm_NotAnAnswer⟩,
    xf_NotAnAnswer := ⟨hg_NotAnAnswer, hk_NotAnAnswer, hs_NotAnAnswer, hd_NotAnAnswer⟩,
    F_NotAnAnswerw_initw := ⟨⟨_, _, _, _, _, _, _, _, rfl, l_NotAnAnswerw_initw, cd_NotAnAnswerw_initw⟩, ⟨_, _, _, _, _, _, kc_NotAnAnswerw_initw, kv_NotAnAnswerw_initw, kf_NotAnAnswerw_initw⟩, ⟨_, _, _, cc_NotAnAnswerw_initw⟩, ic_NotAnAnswerw_initw, PySem.W.mg_none_of X G z_super, htop, ⟨_, rfl, rfl⟩, kp_NotAnAnswerw_initw⟩,
    S_NotAnAnswerw_initw := ⟨⟨⟨_, _, _, _, _, _, _, _, _, _, _, _, _, _, _, x_NotAnAnswerw_initw, rv_NotAnAnswerw_initw⟩, sa_NotAnAnswerw_initw, hs_NotAnAnswer, ty_NotAnAnswerw_initw, ke_NotAnAnswerw_initw⟩, su_NotAnAnswerw_initw, ve_NotAnAnswerw_initw, mr_NotAnAnswerw_initw, hop⟩,
    b_NotAnAnswerw_initw := Binds.all fun us hl => match us, hl with | [_, _], _ => rfl,
    i_NotAnAnswerw_initw := i_NotAnAnswerw_initw,
    ti_NotAnAnswerw_initw := ti_NotAnAnswerw_initw,
    nf_NotAnAnswer_setting := nf_NotAnAnswer_setting,
    m_TooMany := PySem.W.mg_of X G m_TooMany,
    xc_TooMany := ⟨hg_TooMany, hk_TooMany, hs_TooMany, hd_TooMany, ha_TooMany, hcn, hct, hm_TooMany⟩,
    xf_TooMany := ⟨hg_TooMany, hk_TooMany, hs_TooMany, hd_TooMany⟩,
    F_TooManyw_initw := ⟨⟨_, _, _, _, _, _, _, _, rfl, l_TooManyw_initw, cd_TooManyw_initw⟩, ⟨_, _, _, _, _, _, kc_TooManyw_initw, kv_TooManyw_initw, kf_TooManyw_initw⟩, ⟨_, _, _, cc_TooManyw_initw⟩, ic_TooManyw_initw, PySem.W.mg_none_of X G z_super, htop, ⟨_, rfl, rfl⟩, kp_TooManyw_initw⟩,
    S_TooManyw_initw := ⟨⟨⟨_, _, _, _, _, _, _, _, _, _, _, _, _, _, _, x_TooManyw_initw, rv_TooManyw_initw⟩, sa_TooManyw_initw, hs_TooMany, ty_TooManyw_initw, ke_TooManyw_initw⟩, su_TooManyw_initw, ve_TooManyw_initw, mr_TooManyw_initw, hop⟩,
    b_TooManyw_initw := Binds.all fun us hl => match us, hl with | [_, _], _ => rfl,
    i_TooManyw_initw := i_TooManyw_initw,
    ti_TooManyw_initw := ti_TooManyw_initw,
    nf_TooMany_limit := nf_TooMany_limit,
    m_World := PySem.W.mg_of X G m_World,
    cl_World := ⟨pg_World, hd_World, po_World, sa_World⟩,
    ty_World := fun H x dx fs e => .base (.ins e ⟨pg_World, hd_World, po_World, sa_World⟩ ha_World hcn hct hm_World),
    na_World_size := na_World_size,
    m_Kind := PySem.W.mg_of X G m_Kind,
    cl_Kind := ⟨pg_Kind, hd_Kind, po_Kind, sa_Kind⟩,
    ty_Kind := fun H x dx fs e => .base (.ins e ⟨pg_Kind, hd_Kind, po_Kind, sa_Kind⟩ ha_Kind hcn hct hm_Kind),
    na_Kind_name := na_Kind_name,
    na_Kind_width := na_Kind_width,
    na_Kind_tuples := na_Kind_tuples,
    na_Kind_grouped := na_Kind_grouped,
    m_Rules := PySem.W.mg_of X G m_Rules,
    cl_Rules := ⟨pg_Rules, hd_Rules, po_Rules, sa_Rules⟩,
    ty_Rules := fun H x dx fs e => .base (.ins e ⟨pg_Rules, hd_Rules, po_Rules, sa_Rules⟩ ha_Rules hcn hct hm_Rules),
    na_Rules_rules := na_Rules_rules,
    na_Rules_on_letter := na_Rules_on_letter,
    na_Rules_size := na_Rules_size,
    m_is_binary := PySem.W.mg_of X G m_is_binary,
    F_is_binary := fun_mk (st := s_is_binary) l_is_binary c_is_binary k_is_binary,
    b_is_binary := (fun_mk (st := s_is_binary) l_is_binary c_is_binary k_is_binary).binds (ps := ["setting", "size"]) fun _ _ _ _ _ _ us hl => match us, hl with | [_, _], _ => rfl,
    m_flipped := PySem.W.mg_of X G m_flipped,
    F_flipped := fun_mk (st := s_flipped) l_flipped c_flipped k_flipped,
    b_flipped := (fun_mk (st := s_flipped) l_flipped c_flipped k_flipped).binds (ps := ["setting", "positions"]) fun _ _ _ _ _ _ us hl => match us, hl with | [_, _], _ => rfl,
    m_all_binary := PySem.W.mg_of X G m_all_binary,
    F_all_binary := fun_mk (st := s_all_binary) l_all_binary c_all_binary k_all_binary,
    b_all_binary := (fun_mk (st := s_all_binary) l_all_binary c_all_binary k_all_binary).binds (ps := ["size"]) fun _ _ _ _ _ _ us hl => match us, hl with | [_], _ => rfl,
    m_is_name := PySem.W.mg_of X G m_is_name,
    F_is_name := fun_mk (st := s_is_name) l_is_name c_is_name k_is_name,
    b_is_name := (fun_mk (st := s_is_name) l_is_name c_is_name k_is_name).binds (ps := ["text"]) fun _ _ _ _ _ _ us hl => match us, hl with | [_], _ => rfl,
    F_Worldw_initw := fun_mk (st := s_Worldw_initw) l_Worldw_initw c_Worldw_initw k_Worldw_initw,
    b_Worldw_initw := (fun_mk (st := s_Worldw_initw) l_Worldw_initw c_Worldw_initw k_Worldw_initw).binds (ps := ["self", "size"]) fun _ _ _ _ _ _ us hl => match us, hl with | [_, _], _ => rfl,
    mk_World := ⟨mk_World, me_Worldw_initw, fn_Worldw_initw, kc_World⟩,
    F_World_is_answer := fun_mk (st := s_World_is_answer) l_World_is_answer c_World_is_answer k_World_is_answer,
    b_World_is_answer := (fun_mk (st := s_World_is_answer) l_World_is_answer c_World_is_answer k_World_is_answer).binds (ps := ["self", "setting"]) fun _ _ _ _ _ _ us hl => match us, hl with | [_, _], _ => rfl,
    me_World_is_answer := ⟨me_World_is_answer, fn_World_is_answer, k_World_is_answer⟩,
    m_check_answer := PySem.W.mg_of X G m_check_answer,
    F_check_answer := fun_mk (st := s_check_answer) l_check_answer c_check_answer k_check_answer,
    b_check_answer := (fun_mk (st := s_check_answer) l_check_answer c_check_answer k_check_answer).binds (ps := ["world", "setting"]) fun _ _ _ _ _ _ us hl => match us, hl with | [_, _], _ => rfl,
    m_any_order := PySem.W.mg_of X G m_any_order,
    F_any_order := fun_mk (st := s_any_order) l_any_order c_any_order k_any_order,
    b_any_order := (fun_mk (st := s_any_order) l_any_order c_any_order k_any_order).binds (ps := ["rules", "setting", "letters"]) fun _ _ _ _ _ _ us hl => match us, hl with | [_, _, _], _ => rfl,
    F_Kindw_initw := fun_mk (st := s_Kindw_initw) l_Kindw_initw c_Kindw_initw k_Kindw_initw,
    b_Kindw_initw := (fun_mk (st := s_Kindw_initw) l_Kindw_initw c_Kindw_initw k_Kindw_initw).binds (ps := ["self", "name", "width", "tuples"]) fun _ _ _ _ _ _ us hl => match us, hl with | [_, _, _, _], _ => rfl,
    mk_Kind := ⟨mk_Kind, me_Kindw_initw, fn_Kindw_initw, kc_Kind⟩,
    F_Kindw_containsw := fun_mk (st := s_Kindw_containsw) l_Kindw_containsw c_Kindw_containsw k_Kindw_containsw,
    b_Kindw_containsw := (fun_mk (st := s_Kindw_containsw) l_Kindw_containsw c_Kindw_containsw k_Kindw_containsw).binds (ps := ["self", "values"]) fun _ _ _ _ _ _ us hl => match us, hl with | [_, _], _ => rfl,
    me_Kind___contains__ := ⟨me_Kindw_containsw, fn_Kindw_containsw, k_Kindw_containsw⟩,
    F_Kindw_andw := fun_mk (st := s_Kindw_andw) l_Kindw_andw c_Kindw_andw k_Kindw_andw,
    b_Kindw_andw := (fun_mk (st := s_Kindw_andw) l_Kindw_andw c_Kindw_andw k_Kindw_andw).binds (ps := ["self", "other"]) fun _ _ _ _ _ _ us hl => match us, hl with | [_, _], _ => rfl,
    op_Kindw_andw := ⟨sf_Kind, me_Kindw_andw, fn_Kindw_andw⟩,
    F_Kindw_orw := fun_mk (st := s_Kindw_orw) l_Kindw_orw c_Kindw_orw k_Kindw_orw,
    b_Kindw_orw := (fun_mk (st := s_Kindw_orw) l_Kindw_orw c_Kindw_orw k_Kindw_orw).binds (ps := ["self", "other"]) fun _ _ _ _ _ _ us hl => match us, hl with | [_, _], _ => rfl,
    op_Kindw_orw := ⟨sf_Kind, me_Kindw_orw, fn_Kindw_orw⟩,
    F_Kindw_invertw := fun_mk (st := s_Kindw_invertw) l_Kindw_invertw c_Kindw_invertw k_Kindw_invertw,
    b_Kindw_invertw := (fun_mk (st := s_Kindw_invertw) l_Kindw_invertw c_Kindw_invertw k_Kindw_invertw).binds (ps := ["self"]) fun _ _ _ _ _ _ us hl => match us, hl with | [_], _ => rfl,
    me_Kind___invert__ := ⟨me_Kindw_invertw, fn_Kindw_invertw, k_Kindw_invertw⟩,
    F_Kind_named := fun_mk (st := s_Kind_named) l_Kind_named c_Kind_named k_Kind_named,
    b_Kind_named := (fun_mk (st := s_Kind_named) l_Kind_named c_Kind_named k_Kind_named).binds (ps := ["self", "name"]) fun _ _ _ _ _ _ us hl => match us, hl with | [_, _], _ => rfl,
    me_Kind_named := ⟨me_Kind_named, fn_Kind_named, k_Kind_named⟩,
    m_check_width := PySem.W.mg_of X G m_check_width,
    F_check_width := fun_mk (st := s_check_width) l_check_width c_check_width k_check_width,
    b_check_width := (fun_mk (st := s_check_width) l_check_width c_check_width k_check_width).binds (ps := ["width"]) fun _ _ _ _ _ _ us hl => match us, hl with | [_], _ => rfl,
    m_piece_around := PySem.W.mg_of X G m_piece_around,
    F_piece_around := fun_mk (st := s_piece_around) l_piece_around c_piece_around k_piece_around,
    b_piece_around := (fun_mk (st := s_piece_around) l_piece_around c_piece_around k_piece_around).binds (ps := ["values", "tuples"]) fun _ _ _ _ _ _ us hl => match us, hl with | [_, _], _ => rfl,
    m_grouped_by_piece := PySem.W.mg_of X G m_grouped_by_piece,
    F_grouped_by_piece := fun_mk (st := s_grouped_by_piece) l_grouped_by_piece c_grouped_by_piece k_grouped_by_piece,
    b_grouped_by_piece := (fun_mk (st := s_grouped_by_piece) l_grouped_by_piece c_grouped_by_piece k_grouped_by_piece).binds (ps := ["tuples"]) fun _ _ _ _ _ _ us hl => match us, hl with | [_], _ => rfl,
    mk_Rules := ⟨mk_Rules, me_Rulesw_initw, fn_Rulesw_initw, kc_Rules⟩,
    F_Rulesw_initw := ⟨⟨_, _, _, _, _, _, _, _, rfl, l_Rulesw_initw, cd_Rulesw_initw⟩, ⟨_, _, _, _, _, _, kd_Rulesw_initw, kv_Rulesw_initw, kf_Rulesw_initw⟩, ⟨_, _, _, cc_Rulesw_initw⟩, ic_Rulesw_initw, PySem.W.mg_none_of X G z_super, htop, ⟨_, rfl, rfl⟩, kp_Rulesw_initw⟩,
    S_Rulesw_initw := ⟨su_Rulesw_initw, tb_Rulesw_initw, mr_Rulesw_initw, hop, fi_Rulesw_initw⟩,
    b_Rulesw_initw := Binds.all fun us hl => match us, hl with | [_, _, _], _ => rfl,
    F_Rules_is_answer := fun_mk (st := s_Rules_is_answer) l_Rules_is_answer c_Rules_is_answer k_Rules_is_answer,
    b_Rules_is_answer := (fun_mk (st := s_Rules_is_answer) l_Rules_is_answer c_Rules_is_answer k_Rules_is_answer).binds (ps := ["self", "setting"]) fun _ _ _ _ _ _ us hl => match us, hl with | [_, _], _ => rfl,
    me_Rules_is_answer := ⟨me_Rules_is_answer, fn_Rules_is_answer, k_Rules_is_answer⟩,
    F_Rules_at_rule := fun_mk (st := s_Rules_at_rule) l_Rules_at_rule c_Rules_at_rule k_Rules_at_rule,
    b_Rules_at_rule := (fun_mk (st := s_Rules_at_rule) l_Rules_at_rule c_Rules_at_rule k_Rules_at_rule).binds (ps := ["self", "index", "setting"]) fun _ _ _ _ _ _ us hl => match us, hl with | [_, _, _], _ => rfl,
    me_Rules_at_rule := ⟨me_Rules_at_rule, fn_Rules_at_rule, k_Rules_at_rule⟩,
    F_Rules_broken := fun_mk (st := s_Rules_broken) l_Rules_broken c_Rules_broken k_Rules_broken,
    b_Rules_broken := (fun_mk (st := s_Rules_broken) l_Rules_broken c_Rules_broken k_Rules_broken).binds (ps := ["self", "setting"]) fun _ _ _ _ _ _ us hl => match us, hl with | [_, _], _ => rfl,
    me_Rules_broken := ⟨me_Rules_broken, fn_Rules_broken, k_Rules_broken⟩,
    m_are_letters := PySem.W.mg_of X G m_are_letters,
    F_are_letters := fun_mk (st := s_are_letters) l_are_letters c_are_letters k_are_letters,
    b_are_letters := (fun_mk (st := s_are_letters) l_are_letters c_are_letters k_are_letters).binds (ps := ["letters", "width", "size"]) fun _ _ _ _ _ _ us hl => match us, hl with | [_, _, _], _ => rfl,
    m__law_cell := PySem.W.mg_of X G m__law_cell,
    F_law_cell := fun_mk (st := s_law_cell) l_law_cell c_law_cell k_law_cell,
    b_law_cell := (fun_mk (st := s_law_cell) l_law_cell c_law_cell k_law_cell).binds (ps := ["script", "k"]) fun _ _ _ _ _ _ us hl => match us, hl with | [_, _], _ => rfl,
    m__law_draw := PySem.W.mg_of X G m__law_draw,
    F_law_draw := fun_mk (st := s_law_draw) l_law_draw c_law_draw k_law_draw,
    b_law_draw := (fun_mk (st := s_law_draw) l_law_draw c_law_draw k_law_draw).binds (ps := ["cell", "bases"]) fun _ _ _ _ _ _ us hl => match us, hl with | [_, _], _ => rfl,
    m__law_tuples := PySem.W.mg_of X G m__law_tuples,
    F_law_tuples := fun_mk (st := s_law_tuples) l_law_tuples c_law_tuples k_law_tuples,
    b_law_tuples := (fun_mk (st := s_law_tuples) l_law_tuples c_law_tuples k_law_tuples).binds (ps := ["width"]) fun _ _ _ _ _ _ us hl => match us, hl with | [_], _ => rfl,
    m__law_picked := PySem.W.mg_of X G m__law_picked,
    F_law_picked := fun_mk (st := s_law_picked) l_law_picked c_law_picked k_law_picked,
    b_law_picked := (fun_mk (st := s_law_picked) l_law_picked c_law_picked k_law_picked).binds (ps := ["digits", "size"]) fun _ _ _ _ _ _ us hl => match us, hl with | [_, _], _ => rfl,
    m__law_some := PySem.W.mg_of X G m__law_some,
    F_law_some := fun_mk (st := s_law_some) l_law_some c_law_some k_law_some,
    b_law_some := (fun_mk (st := s_law_some) l_law_some c_law_some k_law_some).binds (ps := ["cell", "size", "count"]) fun _ _ _ _ _ _ us hl => match us, hl with | [_, _, _], _ => rfl,
    m__law_values := PySem.W.mg_of X G m__law_values,
    F_law_values := fun_mk (st := s_law_values) l_law_values c_law_values k_law_values,
    b_law_values := (fun_mk (st := s_law_values) l_law_values c_law_values k_law_values).binds (ps := ["setting", "letters"]) fun _ _ _ _ _ _ us hl => match us, hl with | [_, _], _ => rfl,
    m__law_shown := PySem.W.mg_of X G m__law_shown,
    F_law_shown := fun_mk (st := s_law_shown) l_law_shown c_law_shown k_law_shown,
    b_law_shown := (fun_mk (st := s_law_shown) l_law_shown c_law_shown k_law_shown).binds (ps := ["values", "own", "chosen", "letters"]) fun _ _ _ _ _ _ us hl => match us, hl with | [_, _, _, _], _ => rfl,
    m__law_rule := PySem.W.mg_of X G m__law_rule,
    F_law_rule := fun_mk (st := s_law_rule) l_law_rule c_law_rule k_law_rule,
    b_law_rule := (fun_mk (st := s_law_rule) l_law_rule c_law_rule k_law_rule).binds (ps := ["cell", "size", "setting", "letters", "mode"]) fun _ _ _ _ _ _ us hl => match us, hl with | [_, _, _, _, _], _ => rfl,
    m__law_keeps := PySem.W.mg_of X G m__law_keeps,
    F_law_keeps := fun_mk (st := s_law_keeps) l_law_keeps c_law_keeps k_law_keeps,
    b_law_keeps := (fun_mk (st := s_law_keeps) l_law_keeps c_law_keeps k_law_keeps).binds (ps := ["setting", "rules"]) fun _ _ _ _ _ _ us hl => match us, hl with | [_, _], _ => rfl,
    m__law_due := PySem.W.mg_of X G m__law_due,
    F_law_due := fun_mk (st := s_law_due) l_law_due c_law_due k_law_due,
    b_law_due := (fun_mk (st := s_law_due) l_law_due c_law_due k_law_due).binds (ps := ["setting", "rules", "letters"]) fun _ _ _ _ _ _ us hl => match us, hl with | [_, _, _], _ => rfl,
    m__law_world := PySem.W.mg_of X G m__law_world,
    F_law_world := fun_mk (st := s_law_world) l_law_world c_law_world k_law_world,
    b_law_world := (fun_mk (st := s_law_world) l_law_world c_law_world k_law_world).binds (ps := ["size", "rules"]) fun _ _ _ _ _ _ us hl => match us, hl with | [_, _], _ => rfl,
    m__law_told := PySem.W.mg_of X G m__law_told,
    F_law_told := fun_mk (st := s_law_told) l_law_told c_law_told k_law_told,
    b_law_told := (fun_mk (st := s_law_told) l_law_told c_law_told k_law_told).binds (ps := ["world", "setting", "letters", "due"]) fun _ _ _ _ _ _ us hl => match us, hl with | [_, _, _, _], _ => rfl,
    m__law_refused := PySem.W.mg_of X G m__law_refused,
    F_law_refused := fun_mk (st := s_law_refused) l_law_refused c_law_refused k_law_refused,
    b_law_refused := (fun_mk (st := s_law_refused) l_law_refused c_law_refused k_law_refused).binds (ps := ["world", "setting", "letters", "word"]) fun _ _ _ _ _ _ us hl => match us, hl with | [_, _, _, _], _ => rfl,
    m__law_wrong_settings := PySem.W.mg_of X G m__law_wrong_settings,
    F_law_wrong_settings := fun_mk (st := s_law_wrong_settings) l_law_wrong_settings c_law_wrong_settings k_law_wrong_settings,
    b_law_wrong_settings := (fun_mk (st := s_law_wrong_settings) l_law_wrong_settings c_law_wrong_settings k_law_wrong_settings).binds (ps := ["setting", "rules", "at"]) fun _ _ _ _ _ _ us hl => match us, hl with | [_, _, _], _ => rfl,
    m_law := PySem.W.mg_of X G m_law,
    F_law := fun_mk (st := s_law) l_law c_law k_law,
    b_law := (fun_mk (st := s_law) l_law c_law k_law).binds (ps := ["script"]) fun _ _ _ _ _ _ us hl => match us, hl with | [_], _ => rfl,
    cr_Rules := ⟨cr1_Rules, cr2_Rules⟩,
    cv_Rules_MOST_LETTERS := ⟨_, cv_Rules_MOST_LETTERS, ⟨_, rfl⟩⟩,
    cv_Rules_MOST_RULES := ⟨_, cv_Rules_MOST_RULES, ⟨_, rfl⟩⟩,
    kit_NotAnAnswer_TooMany := kit_NotAnAnswer_TooMany,
    kit_NotAnAnswer_StepError := kit_NotAnAnswer_StepError,
    kit_NotAnAnswer_ValueError := kit_NotAnAnswer_ValueError,
    kit_TooMany_StepError := kit_TooMany_StepError,
    kit_TooMany_ValueError := kit_TooMany_ValueError,
    exm_NotAnAnswer_NotAnAnswer := exm_NotAnAnswer_NotAnAnswer,
    exm_TooMany_NotAnAnswer := exm_TooMany_NotAnAnswer,
    exm_TooMany_TooMany := exm_TooMany_TooMany }
set_option Elab.async false
set_option linter.all false
set_option maxRecDepth 100000
set_option maxHeartbeats 4000000
set_option autoImplicit false
open PySem L2 Z
open Evl (Ex)
local macro_rules | `(tactic| walk_at "ex") => `(tactic| first | assumption | exact Evl.Ex.refl _ | (refine Evl.Ex.trans (by assumption) ?_; walk_at "ex"))
local macro_rules | `(tactic| walk_at "side") => `(tactic| first | assumption | ((apply Z.atI_mapE); assumption; rfl) | omega | decide | (exact Or.inl ⟨by omega, by omega⟩) | (exact Or.inr ⟨by omega, by omega⟩) | (with_reducible rfl) | (refine ⟨?_, ?_⟩ <;> walk_at "side") | rfl)
local macro_rules | `(tactic| walk_at "sub") => `(tactic| first | walk_at "ev" | walk_at "side")
local macro_rules | `(tactic| walk_at "ev") => `(tactic| first
  | assumption
  | exact Z.er_int | exact Z.er_bl | exact Z.er_str | exact Z.er_non
  | exact Z.er_vint rfl | exact Z.er_vbl rfl | exact Z.er_vstr rfl
  | ((with_reducible apply Z.ed_var); (exact rfl); assumption; (walk_at "ex"))
  | exact Z.ed_own rfl (by assumption) (by walk_at "ex")
  | ((with_reducible apply Z.er_add) <;> walk_at "sub") | ((with_reducible apply Z.er_sub) <;> walk_at "sub") | ((with_reducible apply Z.er_mul) <;> walk_at "sub")
  | ((with_reducible apply Z.er_fdiv) <;> walk_at "sub") | ((with_reducible apply Z.er_mod) <;> walk_at "sub") | ((with_reducible apply Z.er_pow) <;> walk_at "sub")
  | ((with_reducible apply Z.er_neg) <;> walk_at "sub")
  | ((with_reducible apply Z.er_lt) <;> walk_at "sub") | ((with_reducible apply Z.er_le) <;> walk_at "sub") | ((with_reducible apply Z.er_gt) <;> walk_at "sub") | ((with_reducible apply Z.er_ge) <;> walk_at "sub")
  | ((with_reducible apply Z.er_eqI) <;> walk_at "ev") | ((with_reducible apply Z.er_neI) <;> walk_at "ev")
  | ((with_reducible apply Z.et_test) <;> walk_at "sub") | ((with_reducible apply Z.et_B) <;> walk_at "sub") | ((with_reducible apply Z.et_not) <;> walk_at "sub")
  | ((apply Z.ed_lenL) <;> walk_at "sub") | ((apply Z.ed_lenT) <;> walk_at "sub")
  | ((with_reducible apply Z.er_int1) <;> walk_at "sub")
  | ((with_reducible apply Z.et_orU) <;> walk_at "sub") | ((with_reducible apply Z.et_andU) <;> walk_at "sub")
  | ((with_reducible apply Z.er_andU) <;> walk_at "sub") | ((with_reducible apply Z.er_orU) <;> walk_at "sub") | ((with_reducible apply Z.er_notV) <;> walk_at "sub")
  | ((apply Z.er_isi_intb) <;> walk_at "sub") | ((apply Z.er_isi_int) <;> walk_at "sub") | ((apply Z.ed_isi_list) <;> walk_at "sub") | ((apply Z.ed_isi_tup) <;> walk_at "sub")
  | ((apply Z.ed_ixL) <;> walk_at "sub") | ((apply Z.ed_ixT) <;> walk_at "sub")
  | exact Z.ea_nil | ((with_reducible apply Z.ea_cons) <;> walk_at "sub"))
section
variable {P : Program} {w : World} {K : PySem.W.Frag} {mg : Str → Option Value} {base : Heap} {a : Ad}
def cell2 (ns : List Int) (k : Int) : Int := if k < ns.length then ns.getD k.toNat 0 else if 0 < ns.length then ns.getD (k % ns.length).toNat 0 % 1000003 * 31 + k else k
def spCell (K : PySem.W.Frag) : Sp := sp2 K (fun (_ : List Int) (k : Int) => 0 ≤ k) cell2
theorem ok_law_cell (T : Txt P K mg a) : FnOk P w K mg base CX0 1 a.f_law_cell a.d_law_cell ["script", "k"] (spCell K) := by
  refine T.F_law_cell.ok sc_law_cell len2 (fun cdv A outer s H vs Q E hr h => ⟨_, (pss_cons (ps_if (pt_cmpR op_lt (pv 1) (pe_callB (k_call_len_seq (K := K) rfl) (by rfl) T.z_len (by decide +kernel) (pa_cons (pv 0) pa_nil)) (nomark _))
  (pss_one (ps_ret (pe_callTy call_int1 (by rfl) T.z_int (by decide +kernel) (pa_cons (pe_ix (k_ix_list (K := K) rfl) (pv 0) (pv 1) (fun _ _ => rfl)) pa_nil))))
  pss_nil)
  (pss_cons (ps_if (pt_cmpR op_gt (pe_callB (k_call_len_seq (K := K) rfl) (by rfl) T.z_len (by decide +kernel) (pa_cons (pv 0) pa_nil)) pe_int (nomark _))
  (pss_one (ps_ret (pe_op op_add (pe_op op_mul (pe_op op_mod (pe_callTy call_int1 (by rfl) T.z_int (by decide +kernel) (pa_cons (pe_ix (k_ix_list (K := K) rfl) (pv 0) (pe_op op_mod (pv 1) (pe_callB (k_call_len_seq (K := K) rfl) (by rfl) T.z_len (by decide +kernel) (pa_cons (pv 0) pa_nil))) (fun _ _ => rfl)) pa_nil)) pe_int) pe_int) (pv 1))))
  pss_nil)
  (pss_one (ps_ret (pv 1))))), ?_⟩)
  obtain ⟨v, u, ns, k, rfl, r1, r2, hk, q⟩ := h
  obtain rfl := r2.int
  refine q_if (K := K) (b := decide (k < ns.length)) (by walk_at "ev") (fun hb H1 e1 => ?_) (fun hb H1 e1 => ?_)
  · have hb := of_decide_eq_true hb
    obtain ⟨x, hx, hg⟩ := atI_nn hk hb
    refine s_ret (K := K) (x := x) ?_ (fun v H2 e2 r => q v H2 (e1.trans e2) ?_)
    · refine er_int1 (er_ixL (xs := ns) ?_ ?_ hx) <;> walk_at "ev"
    · rw [show cell2 ns k = x by unfold cell2; rw [if_pos hb, List.getD_eq_getElem?_getD, hg]; rfl]
      exact r
  · have hb := of_decide_eq_false hb
    refine q_if (K := K) (b := decide ((0 : Int) < ns.length)) (by walk_at "ev") (fun hc H2 e2 => ?_) (fun hc H2 e2 => ?_)
    · have hc : (0 : Int) < ns.length := of_decide_eq_true hc
      obtain ⟨x, hx, hg⟩ := atI_nn (xs := ns) (i := k % ns.length) (Int.emod_nonneg _ (by omega)) (Int.emod_lt_of_pos _ hc)
      have m0 := Int.emod_nonneg x (show (1000003 : Int) ≠ 0 by decide)
      have m1 := Int.emod_lt_of_pos x (show (0 : Int) < 1000003 by decide)
      refine s_ret (K := K) (x := x % 1000003 * 31 + k) (er_add (er_mul (i := x % 1000003) ?_ er_int ?_) (er_vint rfl)) (fun v H3 e3 r => q v H3 (e1.trans (e2.trans e3)) ?_)
      · exact er_mod (er_int1 (er_ixL (xs := ns) (er_var rfl r1 (e1.trans e2)) (er_mod (er_vint rfl) (ed_lenL (er_var rfl r1 (e1.trans e2))) hc) hx)) er_int (by decide)
      · walk_at "side"
      rw [show cell2 ns k = x % 1000003 * 31 + k by unfold cell2; rw [if_neg hb, if_pos (by omega), List.getD_eq_getElem?_getD, hg]; rfl]
      exact r
    · have hc := of_decide_eq_false hc
      refine s_ret (K := K) (x := k) (by walk_at "ev") (fun v H3 e3 r => q v H3 (e1.trans (e2.trans e3)) ?_)
      rw [show cell2 ns k = k by unfold cell2; rw [if_neg hb, if_neg (by omega)]]
      exact r
def spDraw (K : PySem.W.Frag) : Sp := sl2 K (fun (_ : Int) (bs : List Int) => (∀ b, b ∈ bs → 0 < b ∧ b < 1073741824) ∧ bs.length ≤ 50000) drw
theorem ok_law_draw (T : Txt P K mg a) : FnOk P w K mg base CX0 1 a.f_law_draw a.d_law_draw ["cell", "bases"] (spDraw K) := by
  refine T.F_law_draw.ok sc_law_draw lel2 (fun cdv A outer s H vs Q E hr h => ⟨_, (pss_cons (ps_set (i := 2) sc_law_draw.nd rfl (Or.inl rfl) (pe_lst pa_nil))
  (pss_cons (ps_set (i := 3) sc_law_draw.nd rfl (Or.inl rfl) (pe_callTy call_int1 (by rfl) T.z_int (by decide +kernel) (pa_cons (pv 0) pa_nil)))
  (pss_cons (ps_if (pt_cmpR op_ge (pv 3) (pe_op op_pow pe_int pe_int) (nomark _))
  (pss_cons (ps_set (i := 3) sc_law_draw.nd rfl (Or.inl rfl) (pe_op op_sub (pv 3) (pe_op op_pow pe_int pe_int)))
  (pss_cons (ps_for PassesOwn.never rfl (k_pi_list (K := K) rfl (pv 1)) (pg_name (i := 4) sc_law_draw.nd rfl (Or.inl rfl))
  (pss_cons (ps_expr (k_pe_bm (K := K) rfl (pe_bm PySem.F.plainAttrs_list PySem.F.slot_list_append PySem.F.type_list_append mt_append (pv 2) (pa_cons (pe_op op_mod (pv 3) (pv 4)) pa_nil))))
  (pss_one (ps_set (i := 3) sc_law_draw.nd rfl (Or.inl rfl) (pe_op op_fdiv (pv 3) (pv 4))))))
  (pss_one (ps_ret (pv 2)))))
  pss_nil)
  (pss_cons (ps_set (i := 5) sc_law_draw.nd rfl (Or.inl rfl) (pe_op op_mod (pv 3) pe_int))
  (pss_cons (ps_for PassesOwn.never rfl (k_pi_list (K := K) rfl (pv 1)) (pg_name (i := 4) sc_law_draw.nd rfl (Or.inl rfl))
  (pss_cons (ps_set (i := 5) sc_law_draw.nd rfl (Or.inl rfl) (pe_op op_mod (pe_op op_add (pe_op op_mul (pv 5) pe_int) pe_int) pe_int))
  (pss_one (ps_expr (k_pe_bm (K := K) rfl (pe_bm PySem.F.plainAttrs_list PySem.F.slot_list_append PySem.F.type_list_append mt_append (pv 2) (pa_cons (pe_op op_mod (pe_op op_fdiv (pv 5) pe_int) (pv 4)) pa_nil)))))))
  (pss_one (ps_ret (pv 2)))))))), ?_⟩)
  obtain ⟨v, u, c, bs, rfl, r1, r2, ⟨hb, hl⟩, q⟩ := h
  obtain rfl := r1.int
  refine q_setL (K := K) (α := Int) (xs := []) (el_lst ea_nil) fun p H1 hp e1 o1 => ?_
  refine q_setI (K := K) (x := c) (er_int1 (er_vint rfl)) fun H2 e2 => ?_
  refine q_if (K := K) (b := decide (10 ^ (18 : Int).toNat ≤ c)) (by walk_at "ev") (fun hc H3 e3 => ?_) (fun hc H3 e3 => ?_)
  · have hc := of_decide_eq_true hc
    refine q_setI (K := K) (x := c - 10 ^ (18 : Int).toNat) (by walk_at "ev") fun H4 e4 => ?_
    have e04 : Ex H H4 := e1.trans (e2.trans (e3.trans e4))
    refine s_seq (s_forV (K := K) (xs := bs) rfl r2 e04 (fun i σ' H' => ∃ o, σ' = [some (.int c), some u, some (.ref p), some (.int (bigR (c - 10 ^ 18) (bs.take i))), o, none] ∧ Own K H' p (big (c - 10 ^ 18) (bs.take i)))
      ⟨none, rfl, o1.mono (e2.trans (e3.trans e4))⟩ ?_ ?_)
    · rintro i b w σ' H5 hi e5 rb ⟨o, rfl, o5⟩
      obtain rfl := Rep.int rb
      have hm := hb b (List.mem_of_getElem? hi)
      refine q_app (l := 2) rfl o5 (x := bigR (c - 10 ^ 18) (bs.take i) % b) (by walk_at "ev") (by rw [big_len, List.length_take]; omega) fun H6 k6 _ o6 => ?_
      refine s_setI (K := K) (x := bigR (c - 10 ^ 18) (bs.take i) / b) (by walk_at "ev") fun H7 e7 => ⟨(k6 _ e5 hp).trans e7, some (.int b), ?_, ?_⟩
      · rw [take_succ_get hi]
        simp [bigR]
      · rw [take_succ_get hi, big_snoc]
        exact o6.mono e7
    · rintro σ' H5 e5 ⟨o, rfl, o5⟩
      rw [List.take_length] at o5
      refine ⟨_, rfl, q p H5 hp e5 ?_⟩
      unfold drw
      rw [if_pos (show 10 ^ 18 ≤ c from hc)]
      exact o5
  · have hc := of_decide_eq_false hc
    refine q_setI (K := K) (x := c % 2147483647) (by walk_at "ev") fun H4 e4 => ?_
    have e04 : Ex H H4 := e1.trans (e2.trans (e3.trans e4))
    refine s_seq (s_forV (K := K) (xs := bs) rfl r2 e04 (fun i σ' H' => ∃ o, σ' = [some (.int c), some u, some (.ref p), some (.int c), o, some (.int (smallR (c % 2147483647) (bs.take i)))] ∧ Own K H' p (small (c % 2147483647) (bs.take i)))
      ⟨none, rfl, o1.mono (e2.trans (e3.trans e4))⟩ ?_ ?_)
    · rintro i b w σ' H5 hi e5 rb ⟨o, rfl, o5⟩
      obtain rfl := Rep.int rb
      have hm := hb b (List.mem_of_getElem? hi)
      have hs := smallR_lt (s := c % 2147483647) (Int.emod_nonneg _ (by decide)) (Int.emod_lt_of_pos _ (by decide)) (bs.take i)
      refine q_setI (K := K) (x := (smallR (c % 2147483647) (bs.take i) * 48271 + 12345) % 2147483647) (by walk_at "ev") fun H6 e6 => ?_
      refine s_app (l := 2) rfl (o5.mono e6) (x := (smallR (c % 2147483647) (bs.take i) * 48271 + 12345) % 2147483647 / 64 % b) (by walk_at "ev") (by rw [small_len, List.length_take]; omega) fun H7 k7 _ o7 => ⟨k7 _ (e5.trans e6) hp, some (.int b), ?_, ?_⟩
      · rw [take_succ_get hi]
        simp [smallR]
      · rw [take_succ_get hi, small_snoc]
        exact o7
    · rintro σ' H5 e5 ⟨o, rfl, o5⟩
      rw [List.take_length] at o5
      refine ⟨_, rfl, q p H5 hp e5 ?_⟩
      unfold drw
      rw [if_neg (show ¬ (10 ^ 18 ≤ c) from hc)]
      exact o5
end
set_option Elab.async false
set_option linter.all false
set_option maxRecDepth 100000
set_option maxHeartbeats 400000
set_option autoImplicit false
open PySem L2 Z
/-! plain: settings of zeros and ones, letters turned, tables -/
abbrev L (t : Tp Int) : List Int := t
def binL (s : List Int) : Bool := s.all fun v => decide (v = 0) || decide (v = 1)
def isB (s : List Int) (n : Int) : Bool := decide ((s.length : Int) = n) && binL s
def flip1 (s : List Int) (p : Int) : List Int := s.set p.toNat (1 - s.getD p.toNat 0)
def flipL (s : List Int) (ps : List Int) : List Int := ps.foldl flip1 s
theorem flip1_len (s : List Int) (p : Int) : (flip1 s p).length = s.length := by simp [flip1]
theorem flipL_len (s : List Int) (ps : List Int) : (flipL s ps).length = s.length := by
  unfold flipL
  induction ps generalizing s with
  | nil => rfl
  | cons p ps ih => rw [List.foldl_cons, ih, flip1_len]
theorem binL_iff {s : List Int} : binL s = true ↔ ∀ v, v ∈ s → v = 0 ∨ v = 1 := by
  unfold binL
  rw [List.all_eq_true]
  simp
theorem binL_at {s : List Int} (h : binL s = true) (k : Nat) : s.getD k 0 = 0 ∨ s.getD k 0 = 1 := by
  rw [List.getD_eq_getElem?_getD]
  cases e : s[k]? with
  | none => exact .inl rfl
  | some v => exact binL_iff.mp h v (List.mem_of_getElem? e)
theorem flip1_bin {s : List Int} {p : Int} (h : binL s = true) : binL (flip1 s p) = true := by
  refine binL_iff.mpr fun v hv => ?_
  unfold flip1 at hv
  rcases List.mem_or_eq_of_mem_set hv with hv | hv
  · exact binL_iff.mp h v hv
  · have := binL_at h p.toNat
    omega
theorem flipL_bin {s : List Int} {ps : List Int} (h : binL s = true) : binL (flipL s ps) = true := by
  unfold flipL
  induction ps generalizing s with
  | nil => exact h
  | cons p ps ih => exact ih (flip1_bin h)
theorem isB_iff {s : List Int} {n : Int} : isB s n = true ↔ (s.length : Int) = n ∧ binL s = true := by
  unfold isB
  rw [Bool.and_eq_true, decide_eq_true_eq]
/-! all tuples of zeros and ones -/
def allB : Nat → List (List Int)
  | 0 => [[]]
  | n + 1 => (allB n).flatMap fun r => [r ++ [0], r ++ [1]]
def lawT : Nat → List (List Int)
  | 0 => [[]]
  | n + 1 => ((lawT n).map fun r => r ++ [0]) ++ (lawT n).map fun r => r ++ [1]
theorem bin_snoc {n : Nat} {t : List Int} : (t.length = n + 1 ∧ binL t = true) ↔ ∃ r : List Int, (r.length = n ∧ binL r = true) ∧ (t = r ++ [0] ∨ t = r ++ [1]) := by
  constructor
  · rintro ⟨h1, h2⟩
    have hne : t ≠ [] := fun z => by rw [z] at h1; simp at h1
    refine ⟨t.dropLast, ⟨by rw [List.length_dropLast]; omega, binL_iff.mpr fun v hv => binL_iff.mp h2 v (List.dropLast_subset t hv)⟩, ?_⟩
    have e := List.dropLast_concat_getLast hne
    rcases binL_iff.mp h2 _ (List.getLast_mem hne) with z | z
    · exact .inl (by rw [← z]; exact e.symm)
    · exact .inr (by rw [← z]; exact e.symm)
  · rintro ⟨r, ⟨h1, h2⟩, h⟩
    rcases h with rfl | rfl
    · refine ⟨by simp [h1], binL_iff.mpr fun v hv => ?_⟩
      rcases List.mem_append.mp hv with hv | hv
      · exact binL_iff.mp h2 v hv
      · exact .inl (List.mem_singleton.mp hv)
    · refine ⟨by simp [h1], binL_iff.mpr fun v hv => ?_⟩
      rcases List.mem_append.mp hv with hv | hv
      · exact binL_iff.mp h2 v hv
      · exact .inr (List.mem_singleton.mp hv)
theorem mem_allB : ∀ {n : Nat} {t : List Int}, t ∈ allB n ↔ t.length = n ∧ binL t = true
  | 0, t => by
    unfold allB
    rw [List.mem_singleton]
    constructor
    · rintro rfl
      exact ⟨rfl, rfl⟩
    · rintro ⟨h, _⟩
      exact List.eq_nil_of_length_eq_zero h
  | n + 1, t => by
    rw [bin_snoc]
    unfold allB
    rw [List.mem_flatMap]
    constructor
    · rintro ⟨r, hr, ht⟩
      exact ⟨r, mem_allB.mp hr, by simpa using ht⟩
    · rintro ⟨r, hr, ht⟩
      exact ⟨r, mem_allB.mpr hr, by simpa using ht⟩
theorem mem_lawT : ∀ {n : Nat} {t : List Int}, t ∈ lawT n ↔ t.length = n ∧ binL t = true
  | 0, t => by
    unfold lawT
    rw [List.mem_singleton]
    constructor
    · rintro rfl
      exact ⟨rfl, rfl⟩
    · rintro ⟨h, _⟩
      exact List.eq_nil_of_length_eq_zero h
  | n + 1, t => by
    rw [bin_snoc]
    unfold lawT
    rw [List.mem_append, List.mem_map, List.mem_map]
    constructor
    · rintro (⟨r, hr, ht⟩ | ⟨r, hr, ht⟩)
      · exact ⟨r, mem_lawT.mp hr, .inl ht.symm⟩
      · exact ⟨r, mem_lawT.mp hr, .inr ht.symm⟩
    · rintro ⟨r, hr, ht | ht⟩
      · exact .inl ⟨r, mem_lawT.mpr hr, ht.symm⟩
      · exact .inr ⟨r, mem_lawT.mpr hr, ht.symm⟩
theorem allB_len : ∀ n : Nat, (allB n).length = 2 ^ n
  | 0 => rfl
  | n + 1 => by
    unfold allB
    rw [List.length_flatMap]
    have := allB_len n
    have e : ∀ xs : List (List Int), (xs.map fun _ => 2).sum = xs.length * 2 := fun xs => by
      induction xs with
      | nil => rfl
      | cons x xs ih => simp [ih]; omega
    show ((allB n).map fun _ => 2).sum = _
    rw [e, this, Nat.pow_succ]
theorem lawT_len : ∀ n : Nat, (lawT n).length = 2 ^ n
  | 0 => rfl
  | n + 1 => by
    unfold lawT
    have := lawT_len n
    simp [this, Nat.pow_succ]
    omega
theorem lawT_nodup : ∀ n : Nat, (lawT n).Nodup
  | 0 => by
    unfold lawT
    exact List.nodup_cons.mpr ⟨by simp, List.nodup_nil⟩
  | n + 1 => by
    unfold lawT
    refine List.nodup_append.mpr ⟨?_, ?_, ?_⟩
    · exact List.pairwise_map.mpr ((lawT_nodup n).imp fun h e => h (List.append_cancel_right e))
    · exact List.pairwise_map.mpr ((lawT_nodup n).imp fun h e => h (List.append_cancel_right e))
    · rintro x hx y hy rfl
      obtain ⟨a, _, ha⟩ := List.mem_map.mp hx
      obtain ⟨b, _, hb⟩ := List.mem_map.mp hy
      have e : a ++ [0] = b ++ [1] := ha.trans hb.symm
      have := congrArg List.getLast? e
      simp at this
/-! values, rules -/
def vals (s : List Int) (ls : List Int) : List Int := ls.map fun l => s.getD l.toNat 0
abbrev Ru := Tp Int × List (Tp Int)
def keepsR (s : List Int) (r : Ru) : Bool := decide ((show Tp Int from vals s (L r.1)) ∈ r.2)
def keeps (s : List Int) (rs : List Ru) : Bool := rs.all (keepsR s)
def pick (ls : List Int) (cs : List Int) : List Int := ((ls.zip cs).filter fun p => decide (p.2 = 1)).map (·.1)
def due (s : List Int) (rs : List Ru) (ls : List Int) : Bool := (lawT ls.length).all fun c => keeps (flipL s (pick ls c)) rs
/-- what is an answer -/
def ans (n : Int) (rs : List Ru) (s : List Int) : Bool := isB s n && keeps s rs
def anyO (n : Int) (rs : List Ru) (s : List Int) (ls : List Int) : Bool := (allB ls.length).all fun c => ans n rs (flipL s (pick ls c))
theorem anyO_due {n : Int} {rs : List Ru} {s ls : List Int} (h : isB s n = true) : anyO n rs s ls = due s rs ls := by
  have hb := isB_iff.mp h
  have e : ∀ ps, ans n rs (flipL s ps) = keeps (flipL s ps) rs := fun ps => by
    unfold ans
    rw [isB_iff.mpr ⟨by rw [flipL_len]; exact hb.1, flipL_bin hb.2⟩]
    rfl
  unfold anyO due
  rw [Bool.eq_iff_iff, List.all_eq_true, List.all_eq_true]
  constructor
  · intro k c hc
    rw [← e]
    exact k c (mem_allB.mpr (mem_lawT.mp hc))
  · intro k c hc
    rw [e]
    exact k c (mem_lawT.mpr (mem_allB.mp hc))
theorem pick_snoc {ls cs : List Int} {k : Nat} {l c : Int} (h1 : ls[k]? = some l) (h2 : cs[k]? = some c) : pick (ls.take (k + 1)) (cs.take (k + 1)) = pick (ls.take k) (cs.take k) ++ (if c = 1 then [l] else []) := by
  have hl : k < ls.length := (List.getElem?_eq_some_iff.mp h1).1
  have hc : k < cs.length := (List.getElem?_eq_some_iff.mp h2).1
  unfold pick
  rw [take_succ_get h1, take_succ_get h2, List.zip_append (by rw [List.length_take, List.length_take]; omega), List.filter_append, List.map_append]
  congr 1
  by_cases e : c = 1
  · simp [e]
  · simp [e]
theorem pick_sub {ls cs : List Int} {l : Int} (h : l ∈ pick ls cs) : l ∈ ls := by
  unfold pick at h
  obtain ⟨p, hp, rfl⟩ := List.mem_map.mp h
  exact (List.of_mem_zip (show (p.1, p.2) ∈ ls.zip cs from (List.mem_filter.mp hp).1)).1
theorem flipL_snoc {s ps : List Int} {p : Int} : flipL s (ps ++ [p]) = flip1 (flipL s ps) p := by
  unfold flipL
  rw [List.foldl_append]
  rfl
set_option Elab.async false
set_option linter.all false
set_option maxRecDepth 100000
set_option maxHeartbeats 400000
set_option autoImplicit false
open PySem L2 Z
open Evl (Ex)
section
variable {P : Program} {w : World} {K : PySem.W.Frag} {mg : Str → Option Value} {base : Heap} {a : Ad}
theorem atI_D {xs : List Int} {i : Int} (h0 : 0 ≤ i) (h : i < xs.length) : atI xs i = some (xs.getD i.toNat 0) := by
  obtain ⟨x, hx, hg⟩ := atI_nn h0 h
  rw [List.getD_eq_getElem?_getD, hg]
  exact hx
-- is_binary
def spIsB (K : PySem.W.Frag) : Sp := sp2 K (fun (s : Tp Int) (_ : Int) => List.length s ≤ 100000) fun s n => isB s n
theorem ok_is_binary (T : Txt P K mg a) : FnOk P w K mg base CX0 1 a.f_is_binary a.d_is_binary ["setting", "size"] (spIsB K) := by
  refine T.F_is_binary.ok sc_is_binary len2 (fun cdv A outer s H vs Q E hr h => ⟨_, (pss_one (ps_ret (pe_and (pe_cmpR op_eq (pe_callB (k_call_len_seq (K := K) rfl) (by rfl) T.z_len (by decide +kernel) (pa_cons (pv 0) pa_nil)) (pv 1) (nomark _)) (pe_one (pe_callB (k_cr_all (K := K) rfl rfl) (by rfl) T.z_all (by decide +kernel) (pa_cons (pe_lc (own := [("value", 2)]) rfl sc_is_binary.nd (k_pi_tup (K := K) rfl (pv 0)) (blkOk_by (own := [("value", 2)]) (N := N_is_binary) (sc := defScope s_is_binary) (by decide +kernel)) (fun _ _ _ _ _ => (pg_name (i := 2) sc_is_binary.nd rfl (Or.inl rfl))) (fun _ _ _ _ _ => pts_nil) (fun _ _ _ _ _ => (pe_or (pe_cmpR op_eq (pv 2) pe_int (nomark _)) (pe_one (pe_cmpR op_eq (pv 2) pe_int (nomark _)))))) pa_nil)))))), ?_⟩)
  obtain ⟨v, u, x, n, rfl, r1, r2, h1, q⟩ := h
  obtain rfl := r2.int
  refine s_ret (K := K) (x := isB x n) (ER.is (er_andU (er_eqI (er_lenT (er_var rfl r1 (Ex.refl _)) rfl) (er_vint rfl)) (er_all (EL.er (el_genA (xs := L x) (f := fun v => decide (v = 0) || decide (v = 1)) (in_tup (er_var rfl r1 (Ex.refl _))) (g_name gr_rep) (fun z σ2 H2 hz e2 s2 => ?_) h1)))) ?_) q
  · obtain ⟨b, rfl, rb⟩ := s2
    obtain rfl := Rep.int rb
    exact er_orU (er_eqI (er_vint rfl) er_int) (er_eqI (er_vint rfl) er_int)
  · rw [List.all_map]
    rfl
-- flipped
def spFlip (K : PySem.W.Frag) : Sp := sp2 K (fun (s : Tp Int) (ps : List Int) => List.length s ≤ 100000 ∧ ∀ p, p ∈ ps → 0 ≤ p ∧ p < List.length s) fun s ps => (show Tp Int from flipL s ps)
theorem ok_flipped (T : Txt P K mg a) : FnOk P w K mg base CX0 1 a.f_flipped a.d_flipped ["setting", "positions"] (spFlip K) := by
  refine T.F_flipped.ok sc_flipped len2 (fun cdv A outer s H vs Q E hr h => ⟨_, (pss_cons (ps_set (i := 2) sc_flipped.nd rfl (Or.inl rfl) (pe_callTy (k_call_list_of (K := K) rfl) (by rfl) T.z_list (by decide +kernel) (pa_cons (pv 0) pa_nil)))
  (pss_cons (ps_for PassesOwn.never rfl (k_pi_list (K := K) rfl (pv 1)) (pg_name (i := 3) sc_flipped.nd rfl (Or.inl rfl))
  (pss_one (ps_asg (pe_op op_sub pe_int (pe_ix (k_ix_list (K := K) rfl) (pv 2) (pv 3) (fun _ _ => rfl))) (pg_sub (pv 2) (pv 3) set_list))))
  (pss_one (ps_ret (pe_callTy (k_call_tuple_of (K := K) rfl) (by rfl) T.z_tuple (by decide +kernel) (pa_cons (pv 2) pa_nil)))))), ?_⟩)
  obtain ⟨v, u, x, ps, rfl, r1, r2, ⟨h1, h2⟩, q⟩ := h
  refine q_setL (K := K) (xs := L x) (el_listT (er_var rfl r1 (Ex.refl _))) fun p H1 hp e1 o1 => ?_
  refine q_forV (K := K) (xs := ps) (v := u) rfl r2 e1 (fun i σ' H' => ∃ o2, σ' = [some v, some u, some (.ref p), o2] ∧ Z.Own K H' p (flipL x (ps.take i))) ⟨_, rfl, o1⟩ ?_ ?_
  · rintro i t w' σ' H3 hi e3 rt ⟨o2, rfl, o⟩
    obtain rfl := Rep.int rt
    have hm := h2 t (List.mem_of_getElem? hi)
    have hl : (flipL x (ps.take i)).length = List.length x := flipL_len _ _
    have c1 := atI_D (xs := flipL x (ps.take i)) hm.1 (by rw [hl]; exact hm.2)
    refine s_put (K := K) (α := Int) (x := 1 - (flipL x (ps.take i)).getD t.toNat 0) (j := t.toNat) rfl o (er_sub er_int (er_ixL (er_own rfl o (Ex.refl _)) (er_vint rfl) c1)) (fun H9 e9 => (er_vint rfl).evI) (by
      rw [hl]
      exact ixN_nn hm.1 hm.2) fun H5 k5 _ o5 => ⟨k5 _ e3 hp, _, rfl, ?_⟩
    rw [show flipL x (ps.take (i + 1)) = flip1 (flipL x (ps.take i)) t from (congrArg (flipL (L x)) (take_succ_get hi)).trans flipL_snoc]
    exact o5
  · rintro σ' H3 e3 ⟨o2, rfl, o⟩
    rw [List.take_length] at o
    exact s_ret (K := K) (x := (show Tp Int from flipL x ps)) (er_tuple (er_own rfl o (Ex.refl _))) fun v H4 e4 r => q v H4 (e3.trans e4) r
-- all_binary
def spAllB (K : PySem.W.Frag) : Sp := sl1 K (fun (n : Int) => 0 ≤ n ∧ n ≤ 12) fun n => (show List (Tp Int) from allB n.toNat)
theorem allB_pre {n : Nat} (h : n ≤ 11) : (allB (n + 1)).length ≤ 100000 := by
  rw [allB_len]
  have : 2 ^ (n + 1) ≤ 2 ^ 12 := Nat.pow_le_pow_right (by decide) (by omega)
  omega
theorem ok_all_binary (T : Txt P K mg a) : FnOk P w K mg base CX0 1 a.f_all_binary a.d_all_binary ["size"] (spAllB K) := by
  refine T.F_all_binary.ok sc_all_binary lel1 (fun cdv A outer s H vs Q E hr h => ⟨_, (pss_cons (ps_set (i := 1) sc_all_binary.nd rfl (Or.inl rfl) (pe_lst (pa_cons (pe_tup pa_nil) pa_nil)))
  (pss_cons (ps_for PassesOwn.never rfl (pi_range1 (by rfl) T.z_range (pa_cons (pv 0) pa_nil)) (pg_name (i := 2) sc_all_binary.nd rfl (Or.inl rfl))
  (pss_one (ps_setLc2 (i := 1) (own := [("row", 3), ("value", 4)]) rfl sc_all_binary.nd rfl rfl (sw_true rfl rfl rfl (by decide +kernel)) (k_pi_list (K := K) rfl (pv 1)) (blkOk_by (own := [("row", 3), ("value", 4)]) (N := N_all_binary) (sc := defScope s_all_binary) (by decide +kernel)) (vs1 := [4]) (by decide) (fun _ _ _ _ _ => (pg_name (i := 3) sc_all_binary.nd rfl (Or.inl rfl))) (fun _ _ _ _ _ => pts_nil) (fun _ _ _ _ _ => (k_pi_tup (K := K) rfl (pe_tup (pa_cons pe_int (pa_cons pe_int pa_nil))))) (fun _ _ _ _ _ => (pg_name (i := 4) sc_all_binary.nd rfl (Or.inl rfl))) (fun _ _ _ _ _ => pts_nil) (fun _ _ _ _ _ => (pe_op (k_op_catA (K := K) rfl) (pv 3) (pe_tup (pa_cons (pv 4) pa_nil)))))))
  (pss_one (ps_ret (pv 1))))), ?_⟩)
  obtain ⟨v, n, rfl, r1, ⟨h1, h2⟩, q⟩ := h
  obtain rfl := r1.int
  refine q_setL (K := K) (xs := (show List (Tp Int) from allB 0)) (el_lst (ea_cons (er_tup (α := Int) ea_nil) ea_nil)) fun p H1 hp e1 o1 => ?_
  refine q_rng (K := K) (n := n) (by walk_at "ev") (by omega) (by omega) fun H2 e2 => ⟨H, fun i σ' H' => ∃ p o2, σ' = [some (.int n), some (.ref p), o2, none, none] ∧ H p = none ∧ Z.Own K H' p (show List (Tp Int) from allB i), e1.trans e2, ⟨_, _, rfl, hp, o1.mono e2⟩, ?_, ?_⟩
  · rintro i σ' H3 hi e3 ⟨p, o2, rfl, hp, o⟩
    refine s_setL (K := K) (xs := (show List (Tp Int) from allB (i + 1))) ?_ fun p' H4 hp' e4 o4 => ⟨e3.trans e4, p', _, rfl, fresh_back e3 hp', o4⟩
    refine EL.is (x := (show List (Tp Int) from allB i).flatMap fun r => [(0 : Int), 1].map fun b => (show Tp Int from L r ++ [b])) (el_gen2 (K := K) (γ := Tp Int) (β := Tp Int) (δ := Int) (i := 3) (k := 4) (ys := fun _ => [(0 : Int), 1]) (Y1 := fun x v H => Rep K H v x) (f := fun (r : Tp Int) b => (show Tp Int from L r ++ [b])) (in_list (α := Tp Int) ?_) (grT_rep (α := Tp Int)) (fun x v H4 hx e4 y => in_tupT (α := Int) (xs := [(0 : Int), 1]) ?_) (fun x v y u H4 hx hy e4 rx ry => ?_) (by decide) ?_) rfl
    · exact er_own rfl o (Ex.refl _)
    · exact er_tup (α := Int) (ea_cons er_int (ea_cons er_int ea_nil))
    · have hl : x.length = i := (mem_allB.mp hx).1
      obtain rfl := Rep.int ry
      exact er_catT (α := Int) (er_var rfl rx (Ex.refl _)) (er_tup (α := Int) (xs := [y]) (ea_cons (er_vint rfl) ea_nil)) (by show x.length + 1 ≤ 100000; omega)
    · exact allB_pre (n := i) (by omega)
  · rintro σ' H3 e3 ⟨p, o2, rfl, hp, o⟩
    exact ⟨_, rfl, q p H3 hp e3 o⟩
end
set_option Elab.async false
set_option linter.all false
set_option maxRecDepth 100000
set_option maxHeartbeats 400000
set_option autoImplicit false
open PySem L2 Z
open Evl (Ex)
section
variable {P : Program} {w : World} {K : PySem.W.Frag} {mg : Str → Option Value} {base : Heap} {a : Ad}
-- exceptions, World
theorem ok_BadKindw_initw (T : Txt P K mg a) : FnOk P w K mg base CX0 1 a.f_BadKindw_initw a.d_BadKindw_initw ["self", "index"] (spX1 K a.C_BadKind "index") :=
  T.F_BadKindw_initw.ok sc_BadKindw_initw len_X1 fun A outer s H vs Q E hr h => ⟨_, pssa_supE T.F_BadKindw_initw sc_BadKindw_initw rfl rfl (pa_cons pe_str pa_nil) (pssa_of (pss_one (ps_ost (pv 0) (pv 1)))),
    read_X1 T.S_BadKindw_initw T.nf_BadKind_index h (len_X1 _ _ _ _ h).symm⟩
theorem ok_BadRulew_initw (T : Txt P K mg a) : FnOk P w K mg base CX0 1 a.f_BadRulew_initw a.d_BadRulew_initw ["self", "index"] (spX1 K a.C_BadRule "index") :=
  T.F_BadRulew_initw.ok sc_BadRulew_initw len_X1 fun A outer s H vs Q E hr h => ⟨_, pssa_supE T.F_BadRulew_initw sc_BadRulew_initw rfl rfl (pa_cons pe_str pa_nil) (pssa_of (pss_one (ps_ost (pv 0) (pv 1)))),
    read_X1 T.S_BadRulew_initw T.nf_BadRule_index h (len_X1 _ _ _ _ h).symm⟩
theorem ok_NotAnAnswerw_initw (T : Txt P K mg a) : FnOk P w K mg base CX0 1 a.f_NotAnAnswerw_initw a.d_NotAnAnswerw_initw ["self", "setting"] (spX1 K a.C_NotAnAnswer "setting") :=
  T.F_NotAnAnswerw_initw.ok sc_NotAnAnswerw_initw len_X1 fun A outer s H vs Q E hr h => ⟨_, pssa_supE T.F_NotAnAnswerw_initw sc_NotAnAnswerw_initw rfl rfl (pa_cons pe_str pa_nil) (pssa_of (pss_one (ps_ost (pv 0) (pv 1)))),
    read_X1 T.S_NotAnAnswerw_initw T.nf_NotAnAnswer_setting h (len_X1 _ _ _ _ h).symm⟩
theorem ok_TooManyw_initw (T : Txt P K mg a) : FnOk P w K mg base CX0 1 a.f_TooManyw_initw a.d_TooManyw_initw ["self", "limit"] (spX1 K a.C_TooMany "limit") :=
  T.F_TooManyw_initw.ok sc_TooManyw_initw len_X1 fun A outer s H vs Q E hr h => ⟨_, pssa_supE T.F_TooManyw_initw sc_TooManyw_initw rfl rfl (pa_cons pe_str pa_nil) (pssa_of (pss_one (ps_ost (pv 0) (pv 1)))),
    read_X1 T.S_TooManyw_initw T.nf_TooMany_limit h (len_X1 _ _ _ _ h).symm⟩
def spWorld (K : PySem.W.Frag) : Sp := fun vs H Q _ => ∃ x C dx fs n, vs = [.ref x, .int n] ∧ H x = some (.ins C dx fs) ∧ fs.length < 1000 ∧ Cls K C ∧ NoAttr K C "size" ∧ Q .non (upd H x (.ins C dx (putF "size" (.int n) fs)))
theorem ok_Worldw_initw (T : Txt P K mg a) : FnOk P w K mg base CX0 1 a.f_Worldw_initw a.d_Worldw_initw ["self", "size"] (spWorld K) := by
  refine T.F_Worldw_initw.ok sc_Worldw_initw (fun vs H Q E (h : spWorld K vs H Q E) => by obtain ⟨x, C, dx, fs, n, rfl, _⟩ := h; rfl) (fun cdv A outer s H vs Q E hr h => ⟨_, (pss_one (k_ps_fld (K := K) rfl (ps_fld (pv 0) (pv 1) rfl))), ?_⟩)
  obtain ⟨x, C, dx, fs, n, rfl, h1, h2, h3, h4, q⟩ := h
  exact ⟨_, rfl, _, rfl, x, C, dx, fs, rfl, h1, h3, h4, h2, q⟩
-- names, widths, letters
def abc : Str := "abcdefghijklmnopqrstuvwxyz"
def spName (K : PySem.W.Frag) : Sp := sp1 K (fun (z : Str) => ∃ c, z = ⟨#[c]⟩ ∧ c ∈ abc.cps.toList) fun _ => true
theorem ok_is_name (T : Txt P K mg a) : FnOk P w K mg base CX0 1 a.f_is_name a.d_is_name ["text"] (spName K) := by
  refine T.F_is_name.ok sc_is_name len1 (fun cdv A outer s H vs Q E hr h => ⟨_, (pss_cons (ps_if (PW.pt (pw_or (pt_cmpR op_lt (pe_callB call_len_str (by rfl) T.z_len (by decide +kernel) (pa_cons (pv 0) pa_nil)) pe_int (nomark _)) (pw_or1 (pt_cmpR op_gt (pe_callB call_len_str (by rfl) T.z_len (by decide +kernel) (pa_cons (pv 0) pa_nil)) pe_int (nomark _)))))
  (pss_one (ps_ret pe_bl))
  pss_nil)
  (pss_one (ps_ret (pe_callB (k_cr_all (K := K) rfl rfl) (by rfl) T.z_all (by decide +kernel) (pa_cons (pe_lc (own := [("char", 1)]) rfl sc_is_name.nd (pi_str (pv 0)) (blkOk_by (own := [("char", 1)]) (N := N_is_name) (sc := defScope s_is_name) (by decide +kernel)) (fun _ _ _ _ _ => (pg_name (i := 1) sc_is_name.nd rfl (Or.inl rfl))) (fun _ _ _ _ _ => pts_nil) (fun _ _ _ _ _ => (pe_cmpR op_in_sign (pv 1) pe_str rfl))) pa_nil))))), ?_⟩)
  obtain ⟨v, z, rfl, r1, ⟨c, rfl, hc⟩, q⟩ := h
  obtain rfl := r1.str
  have hz : (⟨#[c]⟩ : Str).length ≤ sizeLine := by rw [sizeLine_eq]; show 1 ≤ _; decide
  refine q_ifF (K := K) (et_orU (et_test (er_lt (er_lenS (er_vstr rfl) hz) er_int)) (et_test (er_gt (er_lenS (er_vstr rfl) hz) er_int))) rfl fun H1 e1 => ?_
  refine s_ret (K := K) (x := true) (ER.is (er_all (EL.er (el_genA (β := Bool) (xs := [c]) (f := fun c => decide (c ∈ abc.cps.toList)) (in_str (K := K) (z := (⟨#[c]⟩ : Str)) (er_vstr rfl)) (g_name (i := 1) fun _ _ _ _ _ r => r) (fun z σ2 H2 hz e2 s2 => ?_) (show 1 ≤ 100000 by decide)))) ?_) fun v H2 e2 r => q v H2 (e1.trans e2) r
  · obtain ⟨b, rfl, rfl⟩ := s2
    exact er_inS (z := abc) (er_vstr rfl) er_str
  · simpa using hc
def spWidth : Sp := fun vs H Q _ => ∃ n : Int, vs = [.int n] ∧ 1 ≤ n ∧ n ≤ 4 ∧ ∀ H', Ex H H' → Q .non H'
theorem ok_check_width (T : Txt P K mg a) : FnOk P w K mg base (L2.CX P w) 3 a.f_check_width a.d_check_width ["width"] spWidth := by
  refine T.F_check_width.okX sc_check_width (fun vs H Q E (h : spWidth vs H Q E) => by obtain ⟨n, rfl, _⟩ := h; rfl) (fun cdv A outer s H vs Q E hr h => ⟨_, (pss_one (ps_if (PW.pt (pw_or (pt_cmpR op_lt (pv 0) pe_int (nomark _)) (pw_or1 (pt_cmpR op_gt (pv 0) (pe_glob (v := .int 4) (by rfl) T.m_MOST_WIDTH.choose_spec ⟨_, rfl⟩) (nomark _)))))
  (pss_one (ps_raise rfl (takes_of rfl rfl rfl rfl) (pmk_oex T.S_BadKindw_initw.T T.i_BadKindw_initw T.ti_BadKindw_initw (ok_BadKindw_initw T) (hr.mono (by decide)) T.b_BadKindw_initw .nil pass0 (by rfl) T.m_BadKind (pa_cons (pe_un un_neg pe_int) pa_nil))))
  pss_nil)), ?_⟩)
  obtain ⟨n, rfl, h1, h2, q⟩ := h
  refine s_ifF (K := K) (et_orU (et_test (er_lt (er_vint rfl) er_int)) (et_test (er_gt (er_vint rfl) er_int))) ?_ fun H1 e1 => q H1 e1
  rw [Bool.or_eq_false_iff, decide_eq_false_iff_not, decide_eq_false_iff_not]
  omega
def Letters (ls : List Int) (n : Int) : Prop := ls.Nodup ∧ ∀ l, l ∈ ls → 0 ≤ l ∧ l < n
def spLetters (K : PySem.W.Frag) : Sp := sp3 K (fun (ls : Tp Int) (wd n : Int) => Letters ls n ∧ (List.length ls : Int) = wd ∧ List.length ls < 1000) fun _ _ _ => true
theorem ok_are_letters (T : Txt P K mg a) : FnOk P w K mg base CX0 1 a.f_are_letters a.d_are_letters ["letters", "width", "size"] (spLetters K) := by
  refine T.F_are_letters.ok sc_are_letters len3 (fun cdv A outer s H vs Q E hr h => ⟨_, (pss_cons (ps_if (PW.pt (pw_or (pt_cmpR op_ne (pe_callB (k_call_len_seq (K := K) rfl) (by rfl) T.z_len (by decide +kernel) (pa_cons (pv 0) pa_nil)) (pv 1) (nomark _)) (pw_or1 (pt_cmpR op_ne (k_pe_lenSetT (K := K) rfl (pe_lenSetT rfl (by rfl) T.z_len (by rfl) T.z_set (pv 0))) (pv 1) (nomark _)))))
  (pss_one (ps_ret pe_bl))
  pss_nil)
  (pss_one (ps_ret (pe_callB (k_cr_all (K := K) rfl rfl) (by rfl) T.z_all (by decide +kernel) (pa_cons (pe_lc (own := [("letter", 3)]) rfl sc_are_letters.nd (k_pi_tup (K := K) rfl (pv 0)) (blkOk_by (own := [("letter", 3)]) (N := N_are_letters) (sc := defScope s_are_letters) (by decide +kernel)) (fun _ _ _ _ _ => (pg_name (i := 3) sc_are_letters.nd rfl (Or.inl rfl))) (fun _ _ _ _ _ => pts_nil) (fun _ _ _ _ _ => (pe_chain op_le op_lt pe_int (pv 3) (pv 2)))) pa_nil))))), ?_⟩)
  obtain ⟨v, u, t, x, wd, n, rfl, r1, r2, r3, ⟨⟨h1, h2⟩, h3, h4⟩, q⟩ := h
  obtain rfl := r2.int
  obtain rfl := r3.int
  refine q_ifF (K := K) (et_orU (et_test (er_neI (er_lenT (er_var rfl r1 (Ex.refl _)) rfl) (er_vint rfl))) (et_test (er_neI (er_lenSetT (er_var rfl r1 (Ex.refl _)) h4 h1) (er_vint rfl)))) (by simp [h3]) fun H1 e1 => ?_
  refine s_ret (K := K) (x := true) (ER.is (er_all (EL.er (el_genA (β := Bool) (xs := L x) (f := fun l => decide (0 ≤ l) && decide (l < n)) (in_tup (er_var rfl r1 e1)) (g_name (i := 3) gr_rep) (fun z σ2 H2 hz e2 s2 => ?_) (by show List.length x ≤ 100000; omega)))) ?_) fun v H2 e2 r => q v H2 (e1.trans e2) r
  · obtain ⟨b, rfl, rb⟩ := s2
    obtain rfl := Rep.int rb
    exact er_chainI (f := fun a b => decide (a ≤ b)) (g := fun a b => decide (a < b)) er_int (er_vint rfl) (er_vint rfl)
  · rw [List.all_map, List.all_eq_true]
    intro l hl
    have := h2 l hl
    simp
    omega
-- the law's tuples, picks, values
def spLTup (K : PySem.W.Frag) : Sp := sl1 K (fun (n : Int) => 0 ≤ n ∧ n ≤ 12) fun n => (show List (Tp Int) from lawT n.toNat)
theorem ok_law_tuples (T : Txt P K mg a) : FnOk P w K mg base CX0 1 a.f_law_tuples a.d_law_tuples ["width"] (spLTup K) := by
  refine T.F_law_tuples.ok sc_law_tuples lel1 (fun cdv A outer s H vs Q E hr h => ⟨_, (pss_cons (ps_set (i := 1) sc_law_tuples.nd rfl (Or.inl rfl) (pe_lst (pa_cons (pe_tup pa_nil) pa_nil)))
  (pss_cons (ps_for PassesOwn.never rfl (pi_range1 (by rfl) T.z_range (pa_cons (pv 0) pa_nil)) (pg_name (i := 2) sc_law_tuples.nd rfl (Or.inl rfl))
  (pss_one (ps_set (i := 1) sc_law_tuples.nd rfl (Or.inl rfl) (pe_op op_cat (pe_lc (own := [("row", 3)]) rfl sc_law_tuples.nd (k_pi_list (K := K) rfl (pv 1)) (blkOk_by (own := [("row", 3)]) (N := N_law_tuples) (sc := defScope s_law_tuples) (by decide +kernel)) (fun _ _ _ _ _ => (pg_name (i := 3) sc_law_tuples.nd rfl (Or.inl rfl))) (fun _ _ _ _ _ => pts_nil) (fun _ _ _ _ _ => (pe_op (k_op_catA (K := K) rfl) (pv 3) (pe_tup (pa_cons pe_int pa_nil))))) (pe_lc (own := [("row", 3)]) rfl sc_law_tuples.nd (k_pi_list (K := K) rfl (pv 1)) (blkOk_by (own := [("row", 3)]) (N := N_law_tuples) (sc := defScope s_law_tuples) (by decide +kernel)) (fun _ _ _ _ _ => (pg_name (i := 3) sc_law_tuples.nd rfl (Or.inl rfl))) (fun _ _ _ _ _ => pts_nil) (fun _ _ _ _ _ => (pe_op (k_op_catA (K := K) rfl) (pv 3) (pe_tup (pa_cons pe_int pa_nil)))))))))
  (pss_one (ps_ret (pv 1))))), ?_⟩)
  obtain ⟨v, n, rfl, r1, ⟨h1, h2⟩, q⟩ := h
  obtain rfl := r1.int
  refine q_setL (K := K) (xs := (show List (Tp Int) from lawT 0)) (el_lst (ea_cons (er_tup (α := Int) ea_nil) ea_nil)) fun p H1 hp e1 o1 => ?_
  refine q_rng (K := K) (n := n) (by walk_at "ev") (by omega) (by omega) fun H2 e2 => ⟨H, fun i σ' H' => ∃ p o2, σ' = [some (.int n), some (.ref p), o2, none] ∧ H p = none ∧ Z.Own K H' p (show List (Tp Int) from lawT i), e1.trans e2, ⟨_, _, rfl, hp, o1.mono e2⟩, ?_, ?_⟩
  · rintro i σ' H3 hi e3 ⟨p, o2, rfl, hp, o⟩
    have hz : (lawT i).length ≤ 4096 := by
      rw [lawT_len]
      exact Nat.le_trans (Nat.pow_le_pow_right (by decide) (show i ≤ 12 by omega)) (by decide)
    have hx : ∀ (b : Int) σ H4, σ[1]? = some (some (.ref p)) → σ.length = 4 → Ex H3 H4 → ∀ {te : TE}, (∀ v H5 (x : Tp Int), x ∈ (show List (Tp Int) from lawT i) → Rep K H5 v x → ER K te ((wipe σ [3]).set 3 (some v)) H5 (show Tp Int from L x ++ [b])) →
        EL K (tLc (iList K (tVar 1)) (gName 3) tYes te [3]) σ H4 ((show List (Tp Int) from lawT i).map fun x => (show Tp Int from L x ++ [b])) := fun b σ H4 hσ _ e4 te ht => by
      refine el_genA (xs := (show List (Tp Int) from lawT i)) (in_list (α := Tp Int) (er_own hσ (o.mono e4) (Ex.refl _))) (g_name (i := 3) gr_rep) (fun z σ2 H5 hz e5 s5 => ?_) (Nat.le_trans hz (by decide))
      obtain ⟨v, rfl, rv⟩ := s5
      exact ht v H5 z hz rv
    refine s_setL (K := K) (xs := (show List (Tp Int) from lawT (i + 1))) ?_ fun p' H4 hp' e4 o4 => ⟨e3.trans e4, p', _, rfl, fresh_back e3 hp', o4⟩
    refine el_add (EL.em (hx 0 _ H3 rfl rfl (Ex.refl _) fun v H5 x hx rv => ?_)) (EL.em (hx 1 _ H3 rfl rfl (Ex.refl _) fun v H5 x hx rv => ?_)) ?_
    · have hl : List.length x = i := (mem_lawT.mp hx).1
      exact er_catT (α := Int) (er_var rfl rv (Ex.refl _)) (er_tup (α := Int) (xs := [0]) (ea_cons er_int ea_nil)) (by show List.length x + 1 ≤ 100000; omega)
    · have hl : List.length x = i := (mem_lawT.mp hx).1
      exact er_catT (α := Int) (er_var rfl rv (Ex.refl _)) (er_tup (α := Int) (xs := [1]) (ea_cons er_int ea_nil)) (by show List.length x + 1 ≤ 100000; omega)
    · show (List.map (fun r : List Int => r ++ [0]) (lawT i)).length + (List.map (fun r : List Int => r ++ [1]) (lawT i)).length ≤ 100000
      simp only [List.length_map]
      omega
  · rintro σ' H3 e3 ⟨p, o2, rfl, hp, o⟩
    exact ⟨_, rfl, q p H3 hp e3 o⟩
end
set_option Elab.async false
set_option linter.all false
set_option maxRecDepth 100000
set_option maxHeartbeats 400000
set_option autoImplicit false
open PySem L2 Z
open Evl (Ex)
def upTo (n : Nat) : List Int := (List.range n).map fun (k : Nat) => (k : Int)
theorem Letters.of {cs pool : List Int} {n : Nat} (h : (cs ++ pool).Perm (upTo n)) : Letters cs n := by
  have hn : (upTo n).Nodup := by
    unfold upTo
    exact List.pairwise_map.mpr (List.nodup_range.imp fun h e => h (Int.ofNat.inj e))
  have hd := h.nodup_iff.mpr hn
  refine ⟨(List.nodup_append.mp hd).1, fun l hl => ?_⟩
  have := h.mem_iff.mp (List.mem_append_left pool hl)
  unfold upTo at this
  obtain ⟨k, hk, rfl⟩ := List.mem_map.mp this
  have := List.mem_range.mp hk
  omega
section
variable {P : Program} {w : World} {K : PySem.W.Frag} {mg : Str → Option Value} {base : Heap} {a : Ad}
def spPicked (K : PySem.W.Frag) : Sp := fun vs H Q _ => ∃ (v : V) (ds : List Int) (n : Nat), vs = [v, .int n] ∧ Rep K H v ds ∧ ds.length ≤ n ∧ n ≤ 50000 ∧ ∀ p H' ls, H p = none → Ex H H' → Z.Own K H' p ls → (Letters ls n ∧ ls.length = ds.length) → Q (.ref p) H'
theorem ok_law_picked (T : Txt P K mg a) : FnOk P w K mg base CX0 1 a.f_law_picked a.d_law_picked ["digits", "size"] (spPicked K) := by
  refine T.F_law_picked.ok sc_law_picked (fun vs H Q E (h : spPicked K vs H Q E) => by obtain ⟨v, ds, n, rfl, _⟩ := h; rfl) (fun cdv A outer s H vs Q E hr h => ⟨_, (pss_cons (ps_setLc (i := 2) (own := [("letter", 6)]) rfl sc_law_picked.nd rfl rfl (sw_true rfl rfl rfl (by decide +kernel)) (pi_range1 (by rfl) T.z_range (pa_cons (pv 1) pa_nil)) (blkOk_by (own := [("letter", 6)]) (N := N_law_picked) (sc := defScope s_law_picked) (by decide +kernel)) (fun _ _ _ _ _ => (pg_name (i := 6) sc_law_picked.nd rfl (Or.inl rfl))) (fun _ _ _ _ _ => pts_nil) (fun _ _ _ _ _ => (pv 6)))
  (pss_cons (ps_set (i := 3) sc_law_picked.nd rfl (Or.inl rfl) (pe_lst pa_nil))
  (pss_cons (ps_for PassesOwn.never rfl (k_pi_list (K := K) rfl (pv 0)) (pg_name (i := 4) sc_law_picked.nd rfl (Or.inl rfl))
  (pss_cons (ps_set (i := 5) sc_law_picked.nd rfl (Or.inl rfl) (pe_op op_mod (pe_callTy call_int1 (by rfl) T.z_int (by decide +kernel) (pa_cons (pv 4) pa_nil)) (pe_callB (k_call_len_seq (K := K) rfl) (by rfl) T.z_len (by decide +kernel) (pa_cons (pv 2) pa_nil))))
  (pss_cons (ps_expr (k_pe_bm (K := K) rfl (pe_bm PySem.F.plainAttrs_list PySem.F.slot_list_append PySem.F.type_list_append mt_append (pv 3) (pa_cons (pe_ix (k_ix_list (K := K) rfl) (pv 2) (pv 5) (fun _ _ => rfl)) pa_nil))))
  (pss_one (ps_set (i := 2) sc_law_picked.nd rfl (Or.inl rfl) (pe_op op_cat (pe_slice (k_sl_list (K := K) rfl) (pv 2) po_none (po_some (pv 5))) (pe_slice (k_sl_list (K := K) rfl) (pv 2) (po_some (pe_op op_add (pv 5) pe_int)) po_none)))))))
  (pss_one (ps_ret (pv 3)))))), ?_⟩)
  obtain ⟨v, ds, n, rfl, r1, h1, h2, q⟩ := h
  refine q_setL (K := K) (xs := upTo n) (el_rmap (n := (n : Int)) (f := fun (k : Nat) => (k : Int)) (er_vint rfl) (by omega) (by omega) (fun k H' hk e => er_vint rfl)) fun p1 H1 hp1 e1 o1 => ?_
  refine q_setL (K := K) (α := Int) (xs := []) (el_lst ea_nil) fun p2 H2 hp2 e2 o2 => ?_
  have e02 := e1.trans e2
  have hne0 : p1 ≠ p2 := fun z => by
    obtain ⟨ws, hw⟩ := o1.at
    rw [z, hp2] at hw
    cases hw
  refine q_forV (K := K) (xs := ds) (v := v) rfl r1 e02 (fun i σ' H' => ∃ p1 cs pool o4 o5, σ' = [some v, some (.int n), some (.ref p1), some (.ref p2), o4, o5, none] ∧ H p1 = none ∧ p1 ≠ p2 ∧ cs.length = i ∧ (cs ++ pool).Perm (upTo n) ∧ Z.Own K H' p1 pool ∧ Z.Own K H' p2 cs)
    ⟨p1, [], upTo n, _, _, rfl, hp1, hne0, rfl, List.Perm.refl _, o1.mono e2, o2⟩ ?_ ?_
  · rintro i d w' σ' H3 hi e3 rt ⟨p1, cs, pool, o4, o5, rfl, hp1, hne, hcl, hperm, ow1, ow2⟩
    obtain rfl := Rep.int rt
    have hlen : cs.length + pool.length = n := by
      have := hperm.length_eq
      rw [List.length_append] at this
      unfold upTo at this
      rwa [List.length_map, List.length_range] at this
    have hid : i < ds.length := (List.getElem?_eq_some_iff.mp hi).1
    have hpos : 0 < pool.length := by omega
    obtain ⟨j, hj, hjl⟩ : ∃ j : Nat, d % (pool.length : Int) = j ∧ j < pool.length := ⟨(d % (pool.length : Int)).toNat, by
      have := Int.emod_nonneg d (show (pool.length : Int) ≠ 0 by omega)
      omega, by
      have := Int.emod_lt_of_pos d (show (0 : Int) < pool.length by omega)
      have := Int.emod_nonneg d (show (pool.length : Int) ≠ 0 by omega)
      omega⟩
    refine q_setI (K := K) (x := (j : Int)) (ER.is (er_mod (er_int1 (er_vint rfl)) (ed_lenL (er_own rfl ow1 (Ex.refl _))) (by omega)) hj) fun H4 e4 => ?_
    have hx := Z.atI_ofN (xs := pool) (List.getElem?_eq_getElem hjl)
    refine q_app (K := K) (l := 3) (x := pool[j]) rfl (ow2.mono e4) (er_ixL (er_own rfl (ow1.mono e4) (Ex.refl _)) (er_vint rfl) hx) (by omega) fun H5 k5 t5 o5 => ?_
    have ow15 : Z.Own K H5 p1 pool := by
      obtain ⟨ws, hw, rw'⟩ := (ow1.mono e4).ex
      obtain ⟨us, hu⟩ := (ow2.mono e4).at
      have hG : Ex (Z.cut H4 p2) H5 := k5 _ cut_ex cut_same
      exact ((ow1.mono e4).cut hu (Ne.symm hne)).mono hG
    refine s_setL (K := K) (xs := pool.take j ++ pool.drop (j + 1)) (el_cat (EL.is (el_sl (er_own rfl ow15 (Ex.refl _)) eo_none (eo_some (er_vint rfl))) (cut_take (by omega))) (EL.is (el_sl (er_own rfl ow15 (Ex.refl _)) (eo_some (ER.is (y := ((j + 1 : Nat) : Int)) (er_add (er_vint rfl) er_int) rfl)) eo_none) (cut_drop (by omega))) (by rw [List.length_take, List.length_drop]; omega)) fun p' H6 hp' e6 o6 => ?_
    have hk : Ex H H6 := (k5 _ (e3.trans e4) (fresh_back e1 hp2)).trans e6
    refine ⟨hk, p', cs ++ [pool[j]], _, _, _, rfl, ?_, fun z => ?_, by rw [List.length_append, hcl]; rfl, ?_, o6, o5.mono e6⟩
    · exact fresh_back (k5 _ (e3.trans e4) (fresh_back e1 hp2)) hp'
    · obtain ⟨ws, hw⟩ := o5.at
      rw [z, hw] at hp'
      cases hp'
    · refine List.Perm.trans ?_ hperm
      rw [List.append_assoc]
      have e : pool.take j ++ pool[j] :: pool.drop (j + 1) = pool := by rw [← List.drop_eq_getElem_cons hjl, List.take_append_drop]
      exact List.Perm.append_left cs ((List.perm_middle (a := pool[j]) (l₁ := pool.take j) (l₂ := pool.drop (j + 1))).symm.trans (List.Perm.of_eq e))
  · rintro σ' H3 e3 ⟨p1, cs, pool, o4, o5, rfl, hp1, hne, hcl, hperm, ow1, ow2⟩
    exact ⟨_, rfl, q p2 H3 cs (fresh_back e1 hp2) e3 ow2 ⟨Letters.of hperm, hcl⟩⟩
theorem lp_picked {E : XK} {te tn : TE} {σ : L2.St} {H : Hp} {ds : List Int} {n : Nat} (h : ER K te σ H ds) (hn : ER K tn σ H (n : Int)) (h1 : ds.length ≤ n) (h2 : n ≤ 50000) :
    LP K (tCall (spPicked K) [] E (tCons te (tCons tn tNil))) σ H fun ls : List Int => Letters ls n ∧ ls.length = ds.length := fun H1 e Q q =>
  h H1 e _ fun v H2 e2 r => hn.evI H2 (e.trans e2) _ fun H3 e3 => ⟨v, ds, n, rfl, r.mono e3, h1, h2, fun p H4 ls hp e4 o hl => q p H4 ls (fresh_back (e2.trans e3) hp) ((e2.trans e3).trans e4) o hl⟩
def spSome (K : PySem.W.Frag) : Sp := fun vs H Q _ => ∃ (c : Int) (n m : Nat), vs = [.int c, .int n, .int m] ∧ m ≤ n ∧ n ≤ 50000 ∧ ∀ p H' ls, H p = none → Ex H H' → Z.Own K H' p ls → (Letters ls n ∧ ls.length = m) → Q (.ref p) H'
theorem ok_law_some (T : Txt P K mg a) : FnOk P w K mg base CX0 2 a.f_law_some a.d_law_some ["cell", "size", "count"] (spSome K) := by
  refine T.F_law_some.ok sc_law_some (fun vs H Q E (h : spSome K vs H Q E) => by obtain ⟨c, n, m, rfl, _⟩ := h; rfl) (fun cdv A outer s H vs Q E hr h => ⟨_, (pss_one (ps_ret (pe_call (ok_law_picked T) (hr.mono (by decide)) (by rfl) T.m__law_picked T.F_law_picked.kp T.b_law_picked .nil pass0 (pa_cons (pe_call (ok_law_draw T) (hr.mono (by decide)) (by rfl) T.m__law_draw T.F_law_draw.kp T.b_law_draw .nil pass0 (pa_cons (pv 0) (pa_cons (pe_op op_rep (pe_lst (pa_cons pe_int pa_nil)) (pv 2)) pa_nil))) (pa_cons (pv 1) pa_nil))))), ?_⟩)
  obtain ⟨c, n, m, rfl, h1, h2, q⟩ := h
  refine s_retLP (lp_picked (n := n) (EL.er (el_c2 (x := c) (y := List.replicate m (360360 : Int)) (er_vint rfl) (EL.er (EL.is (el_rep1 (x := (360360 : Int)) (n := (m : Int)) (el_lst (ea_cons er_int ea_nil)) (er_vint rfl) (by omega) (by omega)) (by rw [Int.toNat_natCast]))) ⟨fun b hb => ?_, ?_⟩)) (er_vint rfl) ?_ h2) fun p H' ls hp e o hl => q p H' ls hp e o ⟨hl.1, ?_⟩
  · rw [(List.mem_replicate.mp hb).2]
    decide
  · rw [List.length_replicate]; omega
  · rw [draw_len, List.length_replicate]; exact h1
  · rw [hl.2, draw_len, List.length_replicate]
theorem lp_some {E : XK} {tc tn tm : TE} {σ : L2.St} {H : Hp} {c : Int} {n m : Nat} (hc : ER K tc σ H c) (hn : ER K tn σ H (n : Int)) (hm : ER K tm σ H (m : Int)) (h1 : m ≤ n) (h2 : n ≤ 50000) :
    LP K (tCall (spSome K) [] E (tCons tc (tCons tn (tCons tm tNil)))) σ H fun ls : List Int => Letters ls n ∧ ls.length = m := fun H1 e Q q =>
  hc.evI H1 e _ fun H2 e2 => hn.evI H2 (e.trans e2) _ fun H3 e3 => hm.evI H3 ((e.trans e2).trans e3) _ fun H4 e4 => ⟨c, n, m, rfl, h1, h2, fun p H5 ls hp e5 o hl => q p H5 ls (fresh_back ((e2.trans e3).trans e4) hp) (((e2.trans e3).trans e4).trans e5) o hl⟩
end
set_option Elab.async false
set_option linter.all false
set_option maxRecDepth 100000
set_option maxHeartbeats 400000
set_option autoImplicit false
open PySem L2 Z
open Evl (Ex)
section
variable {P : Program} {w : World} {K : PySem.W.Frag} {mg : Str → Option Value} {base : Heap} {a : Ad}
def In (ls : List Int) (n : Nat) : Prop := ∀ l, l ∈ ls → 0 ≤ l ∧ l < (n : Int)
theorem In.at {ls : List Int} {s : List Int} {l : Int} (h : In ls s.length) (hl : l ∈ ls) : atI s l = some (s.getD l.toNat 0) := atI_D (h l hl).1 (h l hl).2
-- setting and letters: tuple, list
def spValTL (K : PySem.W.Frag) : Sp := sp2 K (fun (s : Tp Int) (ls : List Int) => In ls (List.length s) ∧ ls.length ≤ 1000) fun s ls => (show Tp Int from vals s ls)
theorem ok_law_values (T : Txt P K mg a) : FnOk P w K mg base CX0 1 a.f_law_values a.d_law_values ["setting", "letters"] (spValTL K) := by
  refine T.F_law_values.ok sc_law_values len2 (fun cdv A outer s H vs Q E hr h => ⟨_, (pss_one (ps_ret (pe_callTy (k_call_tuple_of (K := K) rfl) (by rfl) T.z_tuple (by decide +kernel) (pa_cons (pe_lc (own := [("letter", 2)]) rfl sc_law_values.nd (k_pi_list (K := K) rfl (pv 1)) (blkOk_by (own := [("letter", 2)]) (N := N_law_values) (sc := defScope s_law_values) (by decide +kernel)) (fun _ _ _ _ _ => (pg_name (i := 2) sc_law_values.nd rfl (Or.inl rfl))) (fun _ _ _ _ _ => pts_nil) (fun _ _ _ _ _ => (pe_ix (k_ix_tup (K := K) rfl) (pv 0) (pv 2) (fun _ _ => rfl)))) pa_nil)))), ?_⟩)
  obtain ⟨v, u, x, ls, rfl, r1, r2, ⟨h1, h2⟩, q⟩ := h
  refine s_ret (K := K) (x := (show Tp Int from vals x ls)) (er_tuple (EL.er (el_genA (xs := ls) (f := fun l => (L x).getD l.toNat 0) (in_list (er_var rfl r2 (Ex.refl _))) (g_name (i := 2) gr_rep) (fun z σ2 H2 hz e2 s2 => ?_) (by omega)))) q
  obtain ⟨b, rfl, rb⟩ := s2
  obtain rfl := Rep.int rb
  exact er_ixT (xs := x) (er_var rfl r1 e2) (er_vint rfl) (In.at (s := L x) h1 hz)
-- tuple, tuple
def spValTT (K : PySem.W.Frag) : Sp := sp2 K (fun (s ls : Tp Int) => In ls (List.length s) ∧ List.length ls ≤ 1000) fun s ls => (show Tp Int from vals s ls)
theorem ok_law_valuesTT (T : Txt P K mg a) : FnOk P w K mg base CX0 1 a.f_law_values a.d_law_values ["setting", "letters"] (spValTT K) := by
  refine T.F_law_values.ok sc_law_values len2 (fun cdv A outer s H vs Q E hr h => ⟨_, (pss_one (ps_ret (pe_callTy (k_call_tuple_of (K := K) rfl) (by rfl) T.z_tuple (by decide +kernel) (pa_cons (pe_lc (own := [("letter", 2)]) rfl sc_law_values.nd (k_pi_tup (K := K) rfl (pv 1)) (blkOk_by (own := [("letter", 2)]) (N := N_law_values) (sc := defScope s_law_values) (by decide +kernel)) (fun _ _ _ _ _ => (pg_name (i := 2) sc_law_values.nd rfl (Or.inl rfl))) (fun _ _ _ _ _ => pts_nil) (fun _ _ _ _ _ => (pe_ix (k_ix_tup (K := K) rfl) (pv 0) (pv 2) (fun _ _ => rfl)))) pa_nil)))), ?_⟩)
  obtain ⟨v, u, x, ls, rfl, r1, r2, ⟨h1, h2⟩, q⟩ := h
  refine s_ret (K := K) (x := (show Tp Int from vals x ls)) (er_tuple (EL.er (el_genA (xs := L ls) (f := fun l => (L x).getD l.toNat 0) (in_tup (er_var rfl r2 (Ex.refl _))) (g_name (i := 2) gr_rep) (fun z σ2 H2 hz e2 s2 => ?_) (by show List.length ls ≤ 100000; omega)))) q
  obtain ⟨b, rfl, rb⟩ := s2
  obtain rfl := Rep.int rb
  exact er_ixT (xs := x) (er_var rfl r1 e2) (er_vint rfl) (In.at (s := L x) h1 hz)
-- list, tuple
def spValLT (K : PySem.W.Frag) : Sp := sp2 K (fun (s : List Int) (ls : Tp Int) => In ls s.length ∧ List.length ls ≤ 1000) fun s ls => (show Tp Int from vals s ls)
theorem ok_law_valuesLT (T : Txt P K mg a) : FnOk P w K mg base CX0 1 a.f_law_values a.d_law_values ["setting", "letters"] (spValLT K) := by
  refine T.F_law_values.ok sc_law_values len2 (fun cdv A outer s H vs Q E hr h => ⟨_, (pss_one (ps_ret (pe_callTy (k_call_tuple_of (K := K) rfl) (by rfl) T.z_tuple (by decide +kernel) (pa_cons (pe_lc (own := [("letter", 2)]) rfl sc_law_values.nd (k_pi_tup (K := K) rfl (pv 1)) (blkOk_by (own := [("letter", 2)]) (N := N_law_values) (sc := defScope s_law_values) (by decide +kernel)) (fun _ _ _ _ _ => (pg_name (i := 2) sc_law_values.nd rfl (Or.inl rfl))) (fun _ _ _ _ _ => pts_nil) (fun _ _ _ _ _ => (pe_ix (k_ix_list (K := K) rfl) (pv 0) (pv 2) (fun _ _ => rfl)))) pa_nil)))), ?_⟩)
  obtain ⟨v, u, x, ls, rfl, r1, r2, ⟨h1, h2⟩, q⟩ := h
  refine s_ret (K := K) (x := (show Tp Int from vals x ls)) (er_tuple (EL.er (el_genA (xs := L ls) (f := fun l => x.getD l.toNat 0) (in_tup (er_var rfl r2 (Ex.refl _))) (g_name (i := 2) gr_rep) (fun z σ2 H2 hz e2 s2 => ?_) (by show List.length ls ≤ 100000; omega)))) q
  obtain ⟨b, rfl, rb⟩ := s2
  obtain rfl := Rep.int rb
  exact er_ixL (xs := x) (er_var rfl r1 e2) (er_vint rfl) (In.at h1 hz)
-- shown
def shownB (vs own ch ls : List Int) : Bool := ((List.range ch.length).map fun k => decide (vs.getD k 0 = own.getD k 0) || decide (ch.getD k 0 ∈ ls)).all id
def spShown (K : PySem.W.Frag) : Sp := sp4 K (fun (vs own : Tp Int) (ch ls : List Int) => List.length vs = ch.length ∧ List.length own = ch.length ∧ ch.length ≤ 1000) fun vs own ch ls => shownB vs own ch ls
theorem ok_law_shown (T : Txt P K mg a) : FnOk P w K mg base CX0 1 a.f_law_shown a.d_law_shown ["values", "own", "chosen", "letters"] (spShown K) := by
  refine T.F_law_shown.ok sc_law_shown len4 (fun cdv A outer s H vs Q E hr h => ⟨_, (pss_one (ps_ret (pe_callB (k_cr_all (K := K) rfl rfl) (by rfl) T.z_all (by decide +kernel) (pa_cons (pe_lc (own := [("k", 4)]) rfl sc_law_shown.nd (pi_range1 (by rfl) T.z_range (pa_cons (pe_callB (k_call_len_seq (K := K) rfl) (by rfl) T.z_len (by decide +kernel) (pa_cons (pv 2) pa_nil)) pa_nil)) (blkOk_by (own := [("k", 4)]) (N := N_law_shown) (sc := defScope s_law_shown) (by decide +kernel)) (fun _ _ _ _ _ => (pg_name (i := 4) sc_law_shown.nd rfl (Or.inl rfl))) (fun _ _ _ _ _ => pts_nil) (fun _ _ _ _ _ => (pe_or (pe_cmpR op_eq (pe_ix (k_ix_tup (K := K) rfl) (pv 0) (pv 4) (fun _ _ => rfl)) (pe_ix (k_ix_tup (K := K) rfl) (pv 1) (pv 4) (fun _ _ => rfl)) (nomark _)) (pe_one (pe_cmpR (k_op_in_seq (K := K) rfl) (pe_ix (k_ix_list (K := K) rfl) (pv 2) (pv 4) (fun _ _ => rfl)) (pv 3) (by with_unfolding_all rfl)))))) pa_nil)))), ?_⟩)
  obtain ⟨v1, v2, v3, v4, x, own, ch, ls, rfl, r1, r2, r3, r4, ⟨h1, h2, h3⟩, q⟩ := h
  refine s_ret (K := K) (x := shownB x own ch ls) (er_all (EL.er (EL.is (el_rmap (n := (ch.length : Int)) (f := fun k => decide ((L x).getD k 0 = (L own).getD k 0) || decide (ch.getD k 0 ∈ ls)) (ed_lenL (er_var rfl r3 (Ex.refl _))) (by omega) (by omega) (fun k H' hk e => ?_)) (by rw [Int.toNat_natCast])))) q
  have hk' : k < ch.length := by omega
  refine er_orU (er_eqI (er_ixT (xs := x) (er_var rfl r1 e) (er_vint rfl) (atI_D (xs := L x) (by omega) (by show (k : Int) < (List.length x : Nat); omega))) (er_ixT (xs := own) (er_var rfl r2 e) (er_vint rfl) (atI_D (xs := L own) (by omega) (by show (k : Int) < (List.length own : Nat); omega)))) (er_inI (er_ixL (xs := ch) (er_var rfl r3 e) (er_vint rfl) (atI_D (by omega) (by omega))) (er_var rfl r4 e))
-- keeps
def RulesIn (rs : List Ru) (n : Nat) : Prop := ∀ r, r ∈ rs → In (L r.1) n ∧ (L r.1).length ≤ 1000
theorem all_map_id {α : Type} {xs : List α} {f : α → Bool} : (xs.map f).all id = xs.all f := by rw [List.all_map]; rfl
def spKeepsT (K : PySem.W.Frag) : Sp := sp2 K (fun (s : Tp Int) (rs : List Ru) => RulesIn rs (List.length s) ∧ rs.length ≤ 1000) fun s rs => keeps s rs
theorem ok_law_keeps (T : Txt P K mg a) : FnOk P w K mg base CX0 2 a.f_law_keeps a.d_law_keeps ["setting", "rules"] (spKeepsT K) := by
  refine T.F_law_keeps.ok sc_law_keeps len2 (fun cdv A outer s H vs Q E hr h => ⟨_, (pss_one (ps_ret (pe_callB (k_cr_all (K := K) rfl rfl) (by rfl) T.z_all (by decide +kernel) (pa_cons (pe_lc (own := [("rule", 2)]) rfl sc_law_keeps.nd (k_pi_list (K := K) rfl (pv 1)) (blkOk_by (own := [("rule", 2)]) (N := N_law_keeps) (sc := defScope s_law_keeps) (by decide +kernel)) (fun _ _ _ _ _ => (pg_name (i := 2) sc_law_keeps.nd rfl (Or.inl rfl))) (fun _ _ _ _ _ => pts_nil) (fun _ _ _ _ _ => (pe_cmpR (k_op_inD (K := K) rfl (u65 hr)) (pe_call (ok_law_valuesTT T) (hr.mono (by decide)) (by rfl) T.m__law_values T.F_law_values.kp T.b_law_values .nil pass0 (pa_cons (pv 0) (pa_cons (pe_ix (k_ix_tup (K := K) rfl) (pv 2) pe_int (fun _ _ => rfl)) pa_nil))) (pe_ix (k_ix_tup (K := K) rfl) (pv 2) pe_int (fun _ _ => rfl)) (by with_unfolding_all rfl)))) pa_nil)))), ?_⟩)
  obtain ⟨v, u, x, rs, rfl, r1, r2, ⟨h1, h2⟩, q⟩ := h
  refine s_ret (K := K) (x := keeps x rs) (ER.is (er_all (EL.er (el_genA (xs := rs) (f := keepsR x) (in_list (er_var rfl r2 (Ex.refl _))) (g_name (i := 2) gr_rep) (fun z σ2 H2 hz e2 s2 => ?_) (by omega)))) all_map_id) q
  obtain ⟨b, rfl, rb⟩ := s2
  exact er_inD (er_c2 (x := x) (y := z.1) (er_var rfl r1 e2) (er_ix0 (er_var rfl rb (Ex.refl _))) (h1 z hz)) (er_ix1 (er_var rfl rb (Ex.refl _)))
def spKeepsL (K : PySem.W.Frag) : Sp := sp2 K (fun (s : List Int) (rs : List Ru) => RulesIn rs s.length ∧ rs.length ≤ 1000) fun s rs => keeps s rs
theorem ok_law_keepsL (T : Txt P K mg a) : FnOk P w K mg base CX0 2 a.f_law_keeps a.d_law_keeps ["setting", "rules"] (spKeepsL K) := by
  refine T.F_law_keeps.ok sc_law_keeps len2 (fun cdv A outer s H vs Q E hr h => ⟨_, (pss_one (ps_ret (pe_callB (k_cr_all (K := K) rfl rfl) (by rfl) T.z_all (by decide +kernel) (pa_cons (pe_lc (own := [("rule", 2)]) rfl sc_law_keeps.nd (k_pi_list (K := K) rfl (pv 1)) (blkOk_by (own := [("rule", 2)]) (N := N_law_keeps) (sc := defScope s_law_keeps) (by decide +kernel)) (fun _ _ _ _ _ => (pg_name (i := 2) sc_law_keeps.nd rfl (Or.inl rfl))) (fun _ _ _ _ _ => pts_nil) (fun _ _ _ _ _ => (pe_cmpR (k_op_inD (K := K) rfl (u65 hr)) (pe_call (ok_law_valuesLT T) (hr.mono (by decide)) (by rfl) T.m__law_values T.F_law_values.kp T.b_law_values .nil pass0 (pa_cons (pv 0) (pa_cons (pe_ix (k_ix_tup (K := K) rfl) (pv 2) pe_int (fun _ _ => rfl)) pa_nil))) (pe_ix (k_ix_tup (K := K) rfl) (pv 2) pe_int (fun _ _ => rfl)) (by with_unfolding_all rfl)))) pa_nil)))), ?_⟩)
  obtain ⟨v, u, x, rs, rfl, r1, r2, ⟨h1, h2⟩, q⟩ := h
  refine s_ret (K := K) (x := keeps x rs) (ER.is (er_all (EL.er (el_genA (xs := rs) (f := keepsR x) (in_list (er_var rfl r2 (Ex.refl _))) (g_name (i := 2) gr_rep) (fun z σ2 H2 hz e2 s2 => ?_) (by omega)))) all_map_id) q
  obtain ⟨b, rfl, rb⟩ := s2
  exact er_inD (er_c2 (x := x) (y := z.1) (er_var rfl r1 e2) (er_ix0 (er_var rfl rb (Ex.refl _))) (h1 z hz)) (er_ix1 (er_var rfl rb (Ex.refl _)))
end
set_option Elab.async false
set_option linter.all false
set_option maxRecDepth 100000
set_option maxHeartbeats 400000
set_option autoImplicit false
open PySem L2 Z
open Evl (Ex)
section
variable {P : Program} {w : World} {K : PySem.W.Frag} {mg : Str → Option Value} {base : Heap} {a : Ad}
def spDue (K : PySem.W.Frag) : Sp := sp3 K (fun (s : Tp Int) (rs : List Ru) (ls : List Int) => In ls (List.length s) ∧ RulesIn rs (List.length s) ∧ rs.length ≤ 1000 ∧ ls.length ≤ 12) fun s rs ls => due s rs ls
theorem ok_law_due (T : Txt P K mg a) : FnOk P w K mg base CX0 3 a.f_law_due a.d_law_due ["setting", "rules", "letters"] (spDue K) := by
  refine T.F_law_due.ok sc_law_due len3 (fun cdv A outer s H vs Q E hr h => ⟨_, (pss_cons (ps_for PassesOwn.never rfl (k_pi_list (K := K) rfl (pe_call (ok_law_tuples T) (hr.mono (by decide)) (by rfl) T.m__law_tuples T.F_law_tuples.kp T.b_law_tuples .nil pass0 (pa_cons (pe_callB (k_call_len_seq (K := K) rfl) (by rfl) T.z_len (by decide +kernel) (pa_cons (pv 2) pa_nil)) pa_nil))) (pg_name (i := 3) sc_law_due.nd rfl (Or.inl rfl))
  (pss_cons (ps_set (i := 4) sc_law_due.nd rfl (Or.inl rfl) (pe_callTy (k_call_list_of (K := K) rfl) (by rfl) T.z_list (by decide +kernel) (pa_cons (pv 0) pa_nil)))
  (pss_cons (ps_for PassesOwn.never rfl (pi_range1 (by rfl) T.z_range (pa_cons (pe_callB (k_call_len_seq (K := K) rfl) (by rfl) T.z_len (by decide +kernel) (pa_cons (pv 2) pa_nil)) pa_nil)) (pg_name (i := 5) sc_law_due.nd rfl (Or.inl rfl))
  (pss_one (ps_if (pt_cmpR op_eq (pe_ix (k_ix_tup (K := K) rfl) (pv 3) (pv 5) (fun _ _ => rfl)) pe_int (nomark _))
  (pss_one (ps_asg (pe_op op_sub pe_int (pe_ix (k_ix_list (K := K) rfl) (pv 4) (pe_ix (k_ix_list (K := K) rfl) (pv 2) (pv 5) (fun _ _ => rfl)) (fun _ _ => rfl))) (pg_sub (pv 4) (pe_ix (k_ix_list (K := K) rfl) (pv 2) (pv 5) (fun _ _ => rfl)) set_list)))
  pss_nil)))
  (pss_one (ps_if (pt_not (pt_val (pe_call (ok_law_keepsL T) (hr.mono (by decide)) (by rfl) T.m__law_keeps T.F_law_keeps.kp T.b_law_keeps .nil pass0 (pa_cons (pv 4) (pa_cons (pv 1) pa_nil)))))
  (pss_one (ps_ret pe_bl))
  pss_nil)))))
  (pss_one (ps_ret pe_bl))), ?_⟩)
  obtain ⟨v, u, t, s, rs, ls, rfl, r1, r2, r3, ⟨h1, h2, h3, h4⟩, q⟩ := h
  refine q_forL (K := K) (xs := (show List (Tp Int) from lawT ls.length)) (EL.is (el_c1 (x := (ls.length : Int)) (ed_lenL (er_var rfl r3 (Ex.refl _))) ⟨by omega, by omega⟩) (by rw [Int.toNat_natCast])) fun p1 H1 hp1 e1 o1 =>
    ⟨H1, fun i σ' H' => (∃ o3 o4 o5, σ' = [some v, some u, some t, o3, o4, o5]) ∧ ∀ c, c ∈ (lawT ls.length).take i → keeps (flipL (L s) (pick ls c)) rs = true, Ex.refl _, o1, ⟨⟨_, _, _, rfl⟩, fun c hc => by simp at hc⟩, ?_, ?_⟩
  · rintro i c w' σ' H3 hi e3 rt ⟨⟨o3, o4, o5, rfl⟩, hk⟩
    have e13 := e1.trans e3
    have hcl := mem_lawT.mp (List.mem_of_getElem? hi)
    refine q_setL (K := K) (xs := L s) (el_listT (er_var rfl r1 e13)) fun p4 H4 hp4 e4 o4 => ?_
    refine q_rng (K := K) (n := (ls.length : Int)) (ed_lenL (er_var rfl r3 (e13.trans e4))) (by omega) (by omega) fun H5 e5 => ⟨H3, fun k σ' H' => ∃ o5, σ' = [some v, some u, some t, some w', some (.ref p4), o5] ∧ Z.Own K H' p4 (flipL (L s) (pick (ls.take k) ((L c).take k))), e4.trans e5, ⟨_, rfl, o4.mono e5⟩, ?_, ?_⟩
    · rintro k σ' H6 hk' e6 ⟨o5, rfl, o⟩
      have hkl : k < ls.length := by omega
      have e16 := e13.trans e6
      have l0 := List.getElem?_eq_getElem hkl
      have c0 : (L c)[k]? = some ((L c)[k]'(by rw [hcl.1]; exact hkl)) := List.getElem?_eq_getElem _
      have hm := h1 ls[k] (List.getElem_mem hkl)
      have hfl : (flipL (L s) (pick (ls.take k) ((L c).take k))).length = List.length s := flipL_len _ _
      have snoc := pick_snoc l0 c0
      refine s_if (K := K) (b := decide ((L c)[k]'(by rw [hcl.1]; exact hkl) = 1)) (et_test (er_eqI (er_ixT (xs := c) (er_var rfl rt (e3.trans e6 |> fun _ => e6 |> fun _ => e3.trans e6)) (er_vint rfl) (Z.atI_ofN c0)) er_int)) (fun hb H7 e7 => ?_) (fun hb H7 e7 => ?_)
      · have hb := of_decide_eq_true hb
        have hix : ∀ H9, Ex H7 H9 → ER K _ _ H9 ls[k] := fun H9 e9 => er_ixL (i := (k : Int)) (er_var (i := 2) (σ := [some v, some u, some t, some w', some (.ref p4), some (.int (k : Nat))]) rfl r3 (e16.trans (e7.trans e9))) (er_vint (i := 5) rfl) (Z.atI_ofN l0)
        refine s_put (K := K) (α := Int) (x := 1 - (flipL (L s) (pick (ls.take k) ((L c).take k))).getD ls[k].toNat 0) (j := ls[k].toNat) rfl (o.mono e7) (er_sub er_int (er_ixL (er_own rfl (o.mono e7) (Ex.refl _)) (hix H7 (Ex.refl _)) (atI_D hm.1 (by rw [hfl]; exact hm.2)))) (fun H9 e9 => (hix H9 e9).evI) (by
          rw [hfl]
          exact ixN_nn hm.1 hm.2) fun H8 k8 _ o8 => ⟨k8 _ (e6.trans e7) hp4, _, rfl, ?_⟩
        rw [snoc, if_pos hb, flipL_snoc]
        exact o8
      · have hb := of_decide_eq_false hb
        refine ⟨e6.trans e7, _, rfl, ?_⟩
        rw [snoc, if_neg hb, List.append_nil]
        exact o.mono e7
    · rintro σ' H6 e6 ⟨o5, rfl, o⟩
      rw [Int.toNat_natCast, List.take_length, show (L c).take ls.length = L c from List.take_of_length_le (by show List.length c ≤ _; omega)] at o
      refine s_if (K := K) (b := !keeps (flipL (L s) (pick ls (L c))) rs) (et_not (et_test (er_c2 (x := flipL (L s) (pick ls (L c))) (y := rs) (er_own rfl o (Ex.refl _)) (er_var rfl r2 (e13.trans e6)) ⟨by rw [flipL_len]; exact h2, h3⟩))) (fun hb H7 e7 => ?_) (fun hb H7 e7 => ?_)
      · refine s_ret (K := K) (x := false) er_bl fun v' H8 e8 r => q v' H8 (e13.trans (e6.trans (e7.trans e8))) ?_
        have : due (L s) rs ls = false := by
          unfold due
          rw [List.all_eq_false]
          exact ⟨L c, List.mem_of_getElem? hi, by simpa using hb⟩
        show Rep K H8 v' (due (L s) rs ls)
        rw [this]
        exact r
      · refine ⟨e3.trans (e6.trans e7) |> fun _ => e3.trans (e6.trans e7), ⟨_, _, _, rfl⟩, fun c' hc' => ?_⟩
        rw [take_succ_get (x := L c) hi] at hc'
        rcases List.mem_append.mp hc' with hc' | hc'
        · exact hk c' hc'
        · rw [List.mem_singleton.mp hc']
          simpa using hb
  · rintro σ' H3 e3 ⟨⟨o3, o4, o5, rfl⟩, hk⟩
    refine s_ret (K := K) (x := true) er_bl fun v' H8 e8 r => q v' H8 (e1.trans (e3.trans e8)) ?_
    have : due (L s) rs ls = true := by
      unfold due
      rw [List.all_eq_true]
      intro c hc
      exact hk c ((List.take_of_length_le (l := lawT ls.length) (Nat.le_refl _)).symm ▸ hc)
    show Rep K H8 v' (due (L s) rs ls)
    rw [this]
    exact r
end
set_option Elab.async false
set_option linter.all false
set_option maxRecDepth 100000
set_option maxHeartbeats 400000
set_option autoImplicit false
open PySem L2 Z
open Evl (Ex)
/-- a rule that the setting keeps -/
structure GoodR (n : Nat) (s : List Int) (r : Ru) : Prop where
  ls : Letters (L r.1) n
  l1 : 1 ≤ (L r.1).length
  l4 : (L r.1).length ≤ 4
  nd : List.Nodup (α := List Int) r.2
  len : r.2.length ≤ 16
  bin : ∀ t : Tp Int, t ∈ r.2 → (L t).length = (L r.1).length ∧ binL (L t) = true
  own : (show Tp Int from vals s (L r.1)) ∈ r.2
theorem cut_mid {α : Type} {xs : List α} {a b : Nat} (h : a ≤ xs.length) (h' : b ≤ xs.length) : cutD xs (some (a : Int)) (some (b : Int)) = (xs.drop a).take (b - a) := by
  unfold cutD
  rw [HT.sIx_nat, HT.sIx_nat, Nat.min_eq_left h, Nat.min_eq_left h']
def ruB : List Int := [4, 16] ++ List.replicate 4 360360 ++ List.replicate 16 4
theorem vals_len (s ls : List Int) : (vals s ls).length = ls.length := List.length_map _
theorem vals_bin {s ls : List Int} (h : binL s = true) : binL (vals s ls) = true := binL_iff.mpr fun v hv => by
  obtain ⟨l, _, rfl⟩ := List.mem_map.mp hv
  exact binL_at h _
section
variable {P : Program} {w : World} {K : PySem.W.Frag} {mg : Str → Option Value} {base : Heap} {a : Ad}
def spRule (K : PySem.W.Frag) : Sp := fun vs H Q _ => ∃ (c md : Int) (n : Nat) (v u : V) (s : Tp Int) (ls : List Int), vs = [.int c, .int n, v, u, .int md] ∧ Rep K H v s ∧ Rep K H u ls ∧ (L s).length = n ∧ binL (L s) = true ∧ 1 ≤ n ∧ n ≤ 100 ∧
  ∀ v H' r, Ex H H' → (∀ q, (∃ ws, H q = some (.lst ws)) → Rep K (Z.cut H' q) v r) → GoodR n (L s) r → Q v H'
set_option maxHeartbeats 1600000 in
theorem ok_law_rule (T : Txt P K mg a) : FnOk P w K mg base CX0 2 a.f_law_rule a.d_law_rule ["cell", "size", "setting", "letters", "mode"] (spRule K) := by
  refine T.F_law_rule.ok sc_law_rule (fun vs H Q E (h : spRule K vs H Q E) => by obtain ⟨c, md, n, v, u, s, ls, rfl, _⟩ := h; rfl) (fun cdv A outer s H vs Q E hr h => ⟨_, (pss_cons (ps_set (i := 5) sc_law_rule.nd rfl (Or.inl rfl) (pe_call (ok_law_draw T) (hr.mono (by decide)) (by rfl) T.m__law_draw T.F_law_draw.kp T.b_law_draw .nil pass0 (pa_cons (pv 0) (pa_cons (pe_op op_cat (pe_op op_cat (pe_lst (pa_cons pe_int (pa_cons pe_int pa_nil))) (pe_op op_rep (pe_lst (pa_cons pe_int pa_nil)) pe_int)) (pe_op op_rep (pe_lst (pa_cons pe_int pa_nil)) pe_int)) pa_nil))))
  (pss_cons (ps_set (i := 6) sc_law_rule.nd rfl (Or.inl rfl) (pe_call (ok_law_picked T) (hr.mono (by decide)) (by rfl) T.m__law_picked T.F_law_picked.kp T.b_law_picked .nil pass0 (pa_cons (pe_slice (k_sl_list (K := K) rfl) (pv 5) (po_some pe_int) (po_some (pe_op op_add pe_int (pe_callB (call_min2 rfl) (by rfl) T.z_min (by decide +kernel) (pa_cons (pv 1) (pa_cons (pe_op op_add pe_int (pe_ix (k_ix_list (K := K) rfl) (pv 5) pe_int (fun _ _ => rfl))) pa_nil)))))) (pa_cons (pv 1) pa_nil))))
  (pss_cons (ps_set (i := 7) sc_law_rule.nd rfl (Or.inl rfl) (pe_call (ok_law_values T) (hr.mono (by decide)) (by rfl) T.m__law_values T.F_law_values.kp T.b_law_values .nil pass0 (pa_cons (pv 2) (pa_cons (pv 6) pa_nil))))
  (pss_cons (ps_set (i := 8) sc_law_rule.nd rfl (Or.inl rfl) (pe_call (ok_law_tuples T) (hr.mono (by decide)) (by rfl) T.m__law_tuples T.F_law_tuples.kp T.b_law_tuples .nil pass0 (pa_cons (pe_callB (k_call_len_seq (K := K) rfl) (by rfl) T.z_len (by decide +kernel) (pa_cons (pv 6) pa_nil)) pa_nil)))
  (pss_cons (ps_set (i := 9) sc_law_rule.nd rfl (Or.inl rfl) (pe_ix (k_ix_list (K := K) rfl) (pv 8) (pe_op op_mod (pe_callTy call_int1 (by rfl) T.z_int (by decide +kernel) (pa_cons (pe_ix (k_ix_list (K := K) rfl) (pv 5) pe_int (fun _ _ => rfl)) pa_nil)) (pe_callB (k_call_len_seq (K := K) rfl) (by rfl) T.z_len (by decide +kernel) (pa_cons (pv 8) pa_nil))) (fun _ _ => rfl)))
  (pss_cons (ps_set (i := 10) sc_law_rule.nd rfl (Or.inl rfl) (pe_lst pa_nil))
  (pss_cons (ps_for PassesOwn.never rfl (pi_range1 (by rfl) T.z_range (pa_cons (pe_callB (k_call_len_seq (K := K) rfl) (by rfl) T.z_len (by decide +kernel) (pa_cons (pv 8) pa_nil)) pa_nil)) (pg_name (i := 11) sc_law_rule.nd rfl (Or.inl rfl))
  (pss_cons (ps_set (i := 12) sc_law_rule.nd rfl (Or.inl rfl) (pe_cmpR op_ne (pe_ix (k_ix_list (K := K) rfl) (pv 5) (pe_op op_add pe_int (pv 11)) (fun _ _ => rfl)) pe_int (nomark _)))
  (pss_cons (ps_if (PW.pt (pw_and (pt_cmpR op_gt (pv 4) pe_int (nomark _)) (pw_and1 (pt_val (pe_call (ok_law_shown T) (hr.mono (by decide)) (by rfl) T.m__law_shown T.F_law_shown.kp T.b_law_shown .nil pass0 (pa_cons (pe_ix (k_ix_list (K := K) rfl) (pv 8) (pv 11) (fun _ _ => rfl)) (pa_cons (pv 7) (pa_cons (pv 6) (pa_cons (pv 3) pa_nil)))))))))
  (pss_one (ps_set (i := 12) sc_law_rule.nd rfl (Or.inl rfl) (pe_or (pe_cmpR op_eq (pv 4) pe_int (nomark _)) (pe_one (pe_cmpR (k_op_neD (K := K) rfl hr.units) (pe_ix (k_ix_list (K := K) rfl) (pv 8) (pv 11) (fun _ _ => rfl)) (pv 9) (nomark _))))))
  pss_nil)
  (pss_one (ps_if (PW.pt (pw_or (pt_val (pv 12)) (pw_or1 (pt_cmpR (k_op_eqD (K := K) rfl hr.units) (pe_ix (k_ix_list (K := K) rfl) (pv 8) (pv 11) (fun _ _ => rfl)) (pv 7) (nomark _)))))
  (pss_one (ps_expr (k_pe_bm (K := K) rfl (pe_bm PySem.F.plainAttrs_list PySem.F.slot_list_append PySem.F.type_list_append mt_append (pv 10) (pa_cons (pe_ix (k_ix_list (K := K) rfl) (pv 8) (pv 11) (fun _ _ => rfl)) pa_nil)))))
  pss_nil)))))
  (pss_one (ps_ret (pe_tup (pa_cons (pe_callTy (k_call_tuple_of (K := K) rfl) (by rfl) T.z_tuple (by decide +kernel) (pa_cons (pv 6) pa_nil)) (pa_cons (pv 10) pa_nil)))))))))))), ?_⟩)
  obtain ⟨c, md, n, v, u, s, ls, rfl, r1, r2, hsl, hsb, hn1, hn2, q⟩ := h
  refine q_setL (K := K) (xs := drw c ruB) (el_c2 (x := c) (y := ruB) (er_vint rfl) (EL.er (el_cat (el_cat (xs := [4, 16]) (ys := List.replicate 4 (360360 : Int)) (el_lst (ea_cons er_int (ea_cons er_int ea_nil))) (el_rep1 (x := (360360 : Int)) (n := 4) (el_lst (ea_cons er_int ea_nil)) er_int (by decide) (by decide)) (by decide)) (el_rep1 (x := (4 : Int)) (n := 16) (el_lst (ea_cons er_int ea_nil)) er_int (by decide) (by decide)) (by decide))) (by decide)) fun p5 H1 hp5 e1 o5 => ?_
  have hdl : (drw c ruB).length = 22 := by rw [draw_len]; rfl
  obtain ⟨d0, hd0, h00, h01⟩ := draw_at (bs := ruB) (c := c) (i := 0) (b := 4) rfl (by decide)
  obtain ⟨d1, hd1, h10, h11⟩ := draw_at (bs := ruB) (c := c) (i := 1) (b := 16) rfl (by decide)
  obtain ⟨m, hm, hm1, hm4, hmn⟩ : ∃ m : Nat, min (n : Int) (1 + d0) = m ∧ 1 ≤ m ∧ m ≤ 4 ∧ m ≤ n := ⟨(min (n : Int) (1 + d0)).toNat, by omega, by omega, by omega, by omega⟩
  have hcl : ((drw c ruB).drop 2 |>.take (2 + m - 2)).length = m := by
    rw [List.length_take, List.length_drop, hdl]
    omega
  refine q_setLP (lp_picked (ds := (drw c ruB).drop 2 |>.take (2 + m - 2)) (n := n) (EL.er (EL.is (el_sl (er_own rfl o5 (Ex.refl _)) (eo_some er_int) (eo_some (er_add er_int (er_min2 (er_vint rfl) (er_add er_int (er_ixL (er_own rfl o5 (Ex.refl _)) er_int hd0)))))) (by
    rw [hm]
    exact cut_mid (a := 2) (b := 2 + m) (by omega) (by omega)))) (er_vint rfl) (by omega) (by omega)) fun p6 H2 ch hp6 e2 o6 hch => ?_
  obtain ⟨hL, hl⟩ := hch
  rw [hcl] at hl
  have e02 := e1.trans e2
  have hIn : In ch (L s).length := fun l hl => by
    have := hL.2 l hl
    rw [hsl]
    exact this
  refine q_set (K := K) (x := (show Tp Int from vals (L s) ch)) (er_c2 (x := s) (y := ch) (er_var rfl r1 e02) (er_own rfl o6 (Ex.refl _)) ⟨hIn, by omega⟩) fun v7 H3 e3 r7 => ?_
  refine q_setL (K := K) (xs := (show List (Tp Int) from lawT m)) (EL.is (el_c1 (x := (ch.length : Int)) (ed_lenL (er_own rfl o6 e3)) ⟨by omega, by omega⟩) (by rw [Int.toNat_natCast, hl])) fun p8 H4 hp8 e4 o8 => ?_
  have hel : (lawT m).length = 2 ^ m := lawT_len m
  have h216 : 2 ^ m ≤ 16 := Nat.le_trans (Nat.pow_le_pow_right (by decide) hm4) (by decide)
  have h2pos : 0 < 2 ^ m := Nat.pow_pos (by decide)
  obtain ⟨j, hj, hjl⟩ : ∃ j : Nat, d1 % ((lawT m).length : Int) = j ∧ j < (lawT m).length := ⟨(d1 % ((lawT m).length : Int)).toNat, by
    have := Int.emod_nonneg d1 (show ((lawT m).length : Int) ≠ 0 by omega)
    omega, by
    have := Int.emod_lt_of_pos d1 (show (0 : Int) < (lawT m).length by omega)
    have := Int.emod_nonneg d1 (show ((lawT m).length : Int) ≠ 0 by omega)
    omega⟩
  have e14 := e2.trans (e3.trans e4)
  refine q_set (K := K) (x := (show Tp Int from (lawT m)[j])) (er_ixL (xs := (show List (Tp Int) from lawT m)) (i := (j : Int)) (er_own rfl o8 (Ex.refl _)) (ER.is (er_mod (er_int1 (er_ixL (er_own rfl (o5.mono e14) (Ex.refl _)) er_int hd1)) (ed_lenL (er_own rfl o8 (Ex.refl _))) (by show (0 : Int) < ((lawT m).length : Nat); omega)) hj) (Z.atI_ofN (xs := (show List (Tp Int) from lawT m)) (List.getElem?_eq_getElem hjl))) fun v9 H5 e5 r9 => ?_
  refine q_setL (K := K) (α := Tp Int) (xs := []) (el_lst ea_nil) fun p10 H6 hp10 e6 o10 => ?_
  have hp10H : H p10 = none := fresh_back (e02.trans (e3.trans (e4.trans e5))) hp10
  have o8' := o8.mono (e5.trans e6)
  have o6' := o6.mono (e3.trans (e4.trans (e5.trans e6)))
  have o5' := o5.mono (e14.trans (e5.trans e6))
  have r7' := r7.mono (e4.trans (e5.trans e6))
  have r9' := r9.mono e6
  have e06 := e02.trans (e3.trans (e4.trans (e5.trans e6)))
  have r2' := r2.mono e06
  refine q_rng (K := K) (n := ((lawT m).length : Int)) (ed_lenL (f := Dat.enc) (xs := (show List (Tp Int) from lawT m)) (er_own rfl o8' (Ex.refl _))) (by omega) (by omega) fun H7 e7 => ⟨Z.cut H7 p10, fun i σ' H' => ∃ (o11 o12 : Option V) (tb : List (List Int)), σ' = [some (.int c), some (.int n), some v, some u, some (.int md), some (.ref p5), some (.ref p6), some v7, some (.ref p8), some v9, some (.ref p10), o11, o12] ∧ Z.Own K H' p10 (show List (Tp Int) from tb) ∧ tb.Sublist ((lawT m).take i) ∧ (vals (L s) ch ∈ (lawT m).take i → vals (L s) ch ∈ tb),
    cut_ex, ⟨_, _, [], rfl, o10.mono e7, by simp, fun z => by simp at z⟩, ?_, ?_⟩
  · obtain ⟨ws10, hw10⟩ := (o10.mono e7).at
    have ne5 : p10 ≠ p5 := fun z => by obtain ⟨ws, hw⟩ := (o5.mono (e14.trans e5)).at; rw [← z, hp10] at hw; cases hw
    have ne6 : p10 ≠ p6 := fun z => by obtain ⟨ws, hw⟩ := (o6.mono (e3.trans (e4.trans e5))).at; rw [← z, hp10] at hw; cases hw
    have ne8 : p10 ≠ p8 := fun z => by obtain ⟨ws, hw⟩ := (o8.mono e5).at; rw [← z, hp10] at hw; cases hw
    have g5 := (o5'.mono e7).cut hw10 ne5
    have g6 := (o6'.mono e7).cut hw10 ne6
    have g8 := (o8'.mono e7).cut hw10 ne8
    have g7 := (r7'.mono e7).imm (Tups.cut hw10)
    have g9 := (r9'.mono e7).imm (Tups.cut hw10)
    have g2 : Rep K (Z.cut H7 p10) u ls := r2.mono (ex_cut (e06.trans e7) hp10H)
    rintro i σ' H8 hi e8 ⟨o11, o12, tb, rfl, ot, hsub, hown⟩
    have hil : i < (lawT m).length := by omega
    have hx := List.getElem?_eq_getElem hil
    have hbt := mem_lawT.mp (List.getElem_mem hil)
    have ate := Z.atI_ofN (xs := (show List (Tp Int) from lawT m)) (List.getElem?_eq_getElem hil)
    obtain ⟨dk, hdk, _, _⟩ := draw_at (bs := ruB) (c := c) (i := 6 + i) (b := 4) (by
      have : ∀ k : Nat, k < 16 → ruB[6 + k]? = some 4 := by decide
      exact this i (by omega)) (by decide)
    refine q_setB (K := K) (x := !decide (dk = 0)) (er_neI (er_ixL (er_own rfl g5 e8) (er_add er_int (er_vint rfl)) (by
      rw [← hdk]
      congr 1)) er_int) fun H9 e9 => ?_
    have e89 := e8.trans e9
    refine q_ifJ (K := K) (b := decide (0 < md) && shownB ((lawT m)[i]) (vals (L s) ch) ch ls) (fun σ' H' => ∃ b, σ' = [some (.int c), some (.int n), some v, some u, some (.int md), some (.ref p5), some (.ref p6), some v7, some (.ref p8), some v9, some (.ref p10), some (.int (i : Nat)), some (.bl b)] ∧ Ex H9 H') (fun σ' H' z => ?_) ?_ (fun k _ H10 e10 => ?_) (fun k _ H10 e10 => ?_)
    · obtain ⟨b, rfl, e10⟩ := z
      have e810 := e89.trans e10
      have o10' := ot.mono (e9.trans e10)
      refine s_if (K := K) (b := b || decide ((show Tp Int from (lawT m)[i]) = (show Tp Int from vals (L s) ch))) (et_orU (et_test (er_vbl rfl)) (et_test (er_eqD (er_ixL (xs := (show List (Tp Int) from lawT m)) (er_own rfl g8 e810) (er_vint rfl) ate) (er_var rfl g7 e810)))) (fun hb H11 e11 => ?_) (fun hb H11 e11 => ?_)
      · refine s_app (K := K) (l := 10) (x := (show Tp Int from (lawT m)[i])) rfl (o10'.mono e11) (er_ixL (xs := (show List (Tp Int) from lawT m)) (er_own rfl g8 (e810.trans e11)) (er_vint rfl) ate) (by
          have := hsub.length_le
          rw [List.length_take] at this
          show tb.length < 100000
          omega) fun H12 k12 t12 o12 => ⟨k12 _ (e810.trans e11) cut_same, _, _, tb ++ [(lawT m)[i]], rfl, o12, ?_, fun z => ?_⟩
        · rw [take_succ_get hx]
          exact hsub.append (List.Sublist.refl _)
        · rw [take_succ_get hx] at z
          rcases List.mem_append.mp z with z | z
          · exact List.mem_append_left _ (hown z)
          · exact List.mem_append_right _ z
      · rw [Bool.or_eq_false_iff] at hb
        refine ⟨e810.trans e11, _, _, tb, rfl, o10'.mono e11, ?_, fun z => ?_⟩
        · rw [take_succ_get hx]
          exact hsub.trans (List.sublist_append_left _ _)
        · rw [take_succ_get hx] at z
          rcases List.mem_append.mp z with z | z
          · exact hown z
          · exact absurd (List.mem_singleton.mp z).symm (of_decide_eq_false hb.2)
    · refine et_andU (et_test (er_gt (er_vint rfl) er_int)) (et_test (er_c4 (x := (show Tp Int from (lawT m)[i])) (y := (show Tp Int from vals (L s) ch)) (z := ch) (a := ls) (er_ixL (xs := (show List (Tp Int) from lawT m)) (er_own rfl g8 e89) (er_vint rfl) ate) (er_var rfl g7 e89) (er_own rfl g6 e89) (er_var rfl g2 e89) ⟨?_, ?_, ?_⟩))
      · show (lawT m)[i].length = ch.length
        rw [hbt.1, hl]
      · exact vals_len _ _
      · omega
    · refine s_setB (K := K) (x := decide (md = 1) || !decide ((show Tp Int from (lawT m)[i]) = (show Tp Int from (lawT m)[j]))) (er_orU (er_eqI (er_vint rfl) er_int) (er_neD (er_ixL (xs := (show List (Tp Int) from lawT m)) (er_own rfl g8 (e89.trans e10)) (er_vint rfl) ate) (er_var rfl g9 (e89.trans e10)))) fun H11 e11 => k _ _ ⟨_, rfl, e10.trans e11⟩
    · exact k _ _ ⟨_, rfl, e10⟩
  · rintro σ' H8 e8 ⟨o11, o12, tb, rfl, ot, hsub, hown⟩
    rw [Int.toNat_natCast, List.take_length] at hsub hown
    obtain ⟨ws10, hw10⟩ := (o10.mono e7).at
    have ne6 : p10 ≠ p6 := fun z => by obtain ⟨ws, hw⟩ := (o6.mono (e3.trans (e4.trans e5))).at; rw [← z, hp10] at hw; cases hw
    have g6 := (o6'.mono e7).cut hw10 ne6
    have e0G : Ex H (Z.cut H7 p10) := ex_cut (e06.trans e7) hp10H
    refine s_retP (x := (show Tp Int from ch)) (ys := (show List (Tp Int) from tb)) (er_tuple (er_own rfl g6 e8)) rfl ot fun v' H9 e9 r' c' => q v' H9 (_, _) (e0G.trans (e8.trans e9)) (fun qq ⟨ws, hq⟩ => c' qq ⟨ws, (e0G.trans (e8.trans e9)) _ _ hq⟩ fun z => by rw [z, hp10H] at hq; cases hq) ?_
    refine ⟨hL, ?_, ?_, hsub.nodup (lawT_nodup m), ?_, fun t ht => ?_, hown (mem_lawT.mpr ⟨?_, vals_bin hsb⟩)⟩
    · show 1 ≤ ch.length
      omega
    · show ch.length ≤ 4
      omega
    · have := hsub.length_le
      show tb.length ≤ 16
      omega
    · have := mem_lawT.mp (hsub.mem ht)
      exact ⟨this.1.trans hl.symm, this.2⟩
    · rw [vals_len, hl]
end
set_option Elab.async false
set_option linter.all false
set_option maxRecDepth 100000
set_option maxHeartbeats 400000
set_option autoImplicit false
open PySem L2 Z
open Evl (Ex)
theorem nodup_len {α : Type} [DecidableEq α] : ∀ {r ts : List α}, r.Nodup → (∀ x, x ∈ r → x ∈ ts) → r.length ≤ ts.length
  | [], _, _, _ => Nat.zero_le _
  | x :: r, ts, h, k => by
    obtain ⟨h1, h2⟩ := List.nodup_cons.mp h
    have hx := k x List.mem_cons_self
    have ih := nodup_len (ts := ts.erase x) h2 fun y hy => (List.mem_erase_of_ne (fun z => h1 (by rw [← z]; exact hy))).mpr (k y (List.mem_cons_of_mem _ hy))
    rw [List.length_erase_of_mem hx] at ih
    have := List.length_pos_of_mem hx
    show r.length + 1 ≤ ts.length
    omega
def mu (m : Nat) (σ' : L2.St) : Nat := match σ'[3]? with
  | some (some (V.int k)) => m - k.toNat
  | _ => 0
/-- tuples of zeros and ones -/
def Tabs (wd : Nat) (ts : List (Tp Int)) : Prop := ∀ t : Tp Int, t ∈ ts → (L t).length = wd ∧ binL (L t) = true
theorem Tabs.rows {wd : Nat} {ts : List (Tp Int)} (h : Tabs wd ts) : Rows wd 64 ts := fun t ht => ⟨(h t ht).1, fun m hm => by
  rcases binL_iff.mp (h t ht).2 m hm with rfl | rfl <;> decide⟩
section
variable {K : PySem.W.Frag} {α : Type} [Dat α] {H : Hp}
theorem tups_cutX {q : Addr} (hq : ∀ xs, H q ≠ some (.tup xs)) : Tups H (Z.cut H q) := fun b xs h => (cut_ne (fun z => hq xs (by rw [← z]; exact h))).trans h
theorem own_cutX {p q : Addr} {xs : List α} [Flat α] (h : Z.Own K H p xs) (hq : ∀ xs, H q ≠ some (.tup xs)) (ne : q ≠ p) : Z.Own K (Z.cut H q) p xs := by
  obtain ⟨vs, h1, r1⟩ := h.ex
  refine ⟨vs, by rw [cut_ne (Ne.symm ne)]; exact h1, r1.imm ?_⟩
  intro b ys z
  by_cases hbp : b = p
  · rw [hbp, cut_same] at z
    cases z
  · rw [cut_ne hbp] at z ⊢
    rw [cut_ne (fun w => hq ys (by rw [← w]; exact z))]
    exact z
end
section
variable {P : Program} {w : World} {K : PySem.W.Frag} {mg : Str → Option Value} {base : Heap} {a : Ad}
def spPiece (K : PySem.W.Frag) : Sp := fun vs H Q _ => ∃ (v u : V) (x : Tp Int) (ts : List (Tp Int)) (d : Nat), vs = [v, u] ∧ Rep K H v x ∧ Rep K H u ts ∧ 1 ≤ d ∧ Tabs d ts ∧ d ≤ 1000 ∧ x ∈ ts ∧ ts.length < 64 ∧
  ∀ p H' zs, H p = none → Ex H H' → Z.Own K H' p zs → (x ∈ zs ∧ (∀ z, z ∈ zs → z ∈ ts) ∧ zs.length ≤ ts.length) → Q (.ref p) H'
theorem ok_piece_around (T : Txt P K mg a) : FnOk P w K mg base CX0 2 a.f_piece_around a.d_piece_around ["values", "tuples"] (spPiece K) := by
  refine T.F_piece_around.ok sc_piece_around (fun vs H Q E (h : spPiece K vs H Q E) => by obtain ⟨v, u, x, ts, d, rfl, _⟩ := h; rfl) (fun cdv A outer s H vs Q E hr h => ?_)
  obtain ⟨v, u, x, ts, d, rfl, r1, r2, hd, ht, hd2, hx, hz, q⟩ := h
  refine ⟨_, (pss_cons (ps_set (i := 2) sc_piece_around.nd rfl (Or.inl rfl) (pe_lst (pa_cons (pv 0) pa_nil)))
  (pss_cons (ps_set (i := 3) sc_piece_around.nd rfl (Or.inl rfl) pe_int)
  (pss_cons (ps_while PassesOwn.never (pt_cmpR op_lt (pv 3) (pe_callB (k_call_len_seq (K := K) rfl) (by rfl) T.z_len (by decide +kernel) (pa_cons (pv 2) pa_nil)) (nomark _))
  (pss_cons (ps_for PassesOwn.never rfl (pi_range1 (by rfl) T.z_range (pa_cons (pe_callB (k_call_len_seq (K := K) rfl) (by rfl) T.z_len (by decide +kernel) (pa_cons (pv 0) pa_nil)) pa_nil)) (pg_name (i := 4) sc_piece_around.nd rfl (Or.inl rfl))
  (pss_cons (ps_set (i := 5) sc_piece_around.nd rfl (Or.inl rfl) (pe_call (ok_flipped T) (hr.mono (by decide)) (by rfl) T.m_flipped T.F_flipped.kp T.b_flipped .nil pass0 (pa_cons (pe_ix (k_ix_list (K := K) rfl) (pv 2) (pv 3) (fun _ _ => rfl)) (pa_cons (pe_lst (pa_cons (pv 4) pa_nil)) pa_nil))))
  (pss_one (ps_if (PW.pt (pw_and (pt_cmpR (k_op_inD (K := K) rfl (u65 hr)) (pv 5) (pv 1) (by with_unfolding_all rfl)) (pw_and1 (pt_cmpR (k_op_notInD (K := K) rfl (u65 hr)) (pv 5) (pv 2) (by with_unfolding_all rfl)))))
  (pss_one (ps_expr (k_pe_bm (K := K) rfl (pe_bm PySem.F.plainAttrs_list PySem.F.slot_list_append PySem.F.type_list_append mt_append (pv 2) (pa_cons (pv 5) pa_nil)))))
  pss_nil))))
  (pss_one (ps_aug (i := 3) sc_piece_around.nd rfl (Or.inl rfl) pe_int ip_add))))
  (pss_one (ps_ret (pe_callB (k_cr_sortT (K := K) (d := d) (B := 64) rfl hd) (by rfl) T.z_sorted (by decide +kernel) (pa_cons (pv 2) pa_nil))))))), ?_⟩
  have hxl : List.length x = d := (ht x hx).1
  refine q_setL (K := K) (xs := [x]) (el_lst (ea_cons (er_var rfl r1 (Ex.refl _)) ea_nil)) fun p H1 hp e1 o1 => ?_
  refine q_setI (K := K) (x := (0 : Int)) er_int fun H2 e2 => ?_
  refine q_while (K := K) (fun σ' H' => ∃ (k : Nat) (zs : List (Tp Int)) (o4 o5 : Option V), σ' = [some v, some u, some (.ref p), some (.int k), o4, o5] ∧ Ex H H' ∧ Z.Own K H' p zs ∧ zs.Nodup ∧ (∀ z, z ∈ zs → z ∈ ts) ∧ x ∈ zs)
    (fun σ' _ => mu ts.length σ') ⟨0, [x], _, _, rfl, e1.trans e2, o1.mono e2, by simp, fun z hz => by rw [List.mem_singleton.mp hz]; exact hx, List.mem_singleton.mpr rfl⟩ ?_
  rintro σ' H3 ⟨k, zs, o4, o5, rfl, e3, o, hnd, hsub, hmem⟩
  have hle := nodup_len hnd hsub
  refine ⟨decide ((k : Int) < zs.length), et_test (er_lt (er_vint rfl) (ed_lenL (er_own rfl o (Ex.refl _)))), fun hb H4 e4 => ?_, fun hb H4 e4 => ?_⟩
  · have hb := of_decide_eq_true hb
    refine q_rng (K := K) (n := (List.length x : Int)) (er_lenT (er_var rfl r1 (e3.trans e4)) rfl) (by omega) (by omega) fun H5 e5 => ⟨H, fun i σ' H' => ∃ (zs : List (Tp Int)) (o4 o5 : Option V), σ' = [some v, some u, some (.ref p), some (.int k), o4, o5] ∧ Z.Own K H' p zs ∧ zs.Nodup ∧ (∀ z, z ∈ zs → z ∈ ts) ∧ x ∈ zs ∧ k < zs.length,
      e3.trans (e4.trans e5), ⟨zs, _, _, rfl, o.mono (e4.trans e5), hnd, hsub, hmem, by omega⟩, ?_, ?_⟩
    · rintro i σ' H6 hi e6 ⟨zs, o4, o5, rfl, o, hnd, hsub, hmem, hk⟩
      have hle := nodup_len hnd hsub
      have hat := List.getElem?_eq_getElem hk
      have htl : List.length zs[k] = d := (ht _ (hsub _ (List.getElem_mem hk))).1
      refine q_set (K := K) (x := (show Tp Int from flipL (L zs[k]) [(i : Int)])) (er_c2 (x := zs[k]) (y := [(i : Int)]) (er_ixL (er_own rfl o (Ex.refl _)) (er_vint rfl) (Z.atI_ofN hat)) (EL.er (el_lst (ea_cons (er_vint rfl) ea_nil))) ⟨by omega, fun pp hpp => by rw [List.mem_singleton.mp hpp]; omega⟩) fun v5 H7 e7 r5 => ?_
      refine s_if (K := K) (b := decide ((show Tp Int from flipL (L zs[k]) [(i : Int)]) ∈ ts) && !decide ((show Tp Int from flipL (L zs[k]) [(i : Int)]) ∈ zs)) (et_andU (et_test (er_inD (er_var rfl r5 (Ex.refl _)) (er_var rfl r2 (e6.trans e7)))) (et_test (er_notInD (er_var rfl r5 (Ex.refl _)) (er_own rfl o e7)))) (fun hb2 H8 e8 => ?_) (fun hb2 H8 e8 => ?_)
      · rw [Bool.and_eq_true, decide_eq_true_eq, Bool.not_eq_true', decide_eq_false_iff_not] at hb2
        refine s_app (K := K) (l := 2) (x := (show Tp Int from flipL (L zs[k]) [(i : Int)])) rfl (o.mono (e7.trans e8)) (er_var rfl r5 e8) (by omega) fun H9 k9 t9 o9 => ⟨k9 _ (e6.trans (e7.trans e8)) hp, _, _, _, rfl, o9, ?_, fun z hz => ?_, List.mem_append_left _ hmem, by rw [List.length_append]; omega⟩
        · refine List.nodup_append.mpr ⟨hnd, List.nodup_cons.mpr ⟨fun z => absurd z List.not_mem_nil, List.nodup_nil⟩, fun y hy z hz => ?_⟩
          rw [List.mem_singleton.mp hz]
          rintro rfl
          exact hb2.2 hy
        · rcases List.mem_append.mp hz with hz | hz
          · exact hsub z hz
          · rw [List.mem_singleton.mp hz]; exact hb2.1
      · exact ⟨e6.trans (e7.trans e8), zs, _, _, rfl, o.mono (e7.trans e8), hnd, hsub, hmem, hk⟩
    · rintro σ' H6 e6 ⟨zs, o4, o5, rfl, o, hnd, hsub, hmem, hk⟩
      have hle := nodup_len hnd hsub
      refine ⟨_, rfl, er_int (n := 1) (K := K) (H := H6) H6 (Ex.refl _) _ fun y H7 e7 r7 => ?_⟩
      obtain rfl := Rep.int r7
      refine ⟨(k : Int), 1, rfl, rfl, ⟨k + 1, zs, _, _, rfl, e6.trans e7, o.mono e7, hnd, hsub, hmem⟩, ?_⟩
      show ts.length - ((k : Int) + 1).toNat < ts.length - (k : Int).toNat
      omega
  · refine s_retL (K := K) (xs := srtK (codeT 64) zs) (el_sortU (er_own rfl o e4) (by omega) fun t ht' => ht.rows t (hsub t ht')) fun p' H5 hp' e5 o5 => q p' H5 _ (fresh_back (e3.trans e4) hp') (e3.trans (e4.trans e5)) o5 ⟨srtK_mem.mpr hmem, fun z hz => hsub z (srtK_mem.mp hz), by rw [srtK_len]; exact hle⟩
theorem lp_piece {E : XK} {te tn : TE} {σ : L2.St} {H : Hp} {x : Tp Int} {ts : List (Tp Int)} {d : Nat} (h : ER K te σ H x) (hn : ER K tn σ H ts) (hd : 1 ≤ d) (ht : Tabs d ts) (hd2 : d ≤ 1000) (hx : x ∈ ts) (hz : ts.length < 64) :
    LP K (tCall (spPiece K) [] E (tCons te (tCons tn tNil))) σ H fun zs : List (Tp Int) => x ∈ zs ∧ (∀ z, z ∈ zs → z ∈ ts) ∧ zs.length ≤ ts.length := fun H1 e Q q =>
  h H1 e _ fun v H2 e2 r => hn H2 (e.trans e2) _ fun u H3 e3 r2 => ⟨v, u, x, ts, d, rfl, r.mono e3, r2, hd, ht, hd2, hx, hz, fun p H4 ls hp e4 o hl => q p H4 ls (fresh_back (e2.trans e3) hp) ((e2.trans e3).trans e4) o hl⟩
def spGroup (K : PySem.W.Frag) : Sp := fun vs H Q _ => ∃ (v : V) (ts : List (Tp Int)) (d : Nat), vs = [v] ∧ Rep K H v ts ∧ 1 ≤ d ∧ Tabs d ts ∧ d ≤ 1000 ∧ ts.length < 64 ∧
  ∀ p H' kvs, H p = none → Ex H H' → H' p = some (.dT kvs) → (∀ t : Tp Int, (valV kvs (tkey t)).isSome = decide (t ∈ ts)) → Q (.ref p) H'
theorem ok_grouped_by_piece (T : Txt P K mg a) : FnOk P w K mg base CX0 3 a.f_grouped_by_piece a.d_grouped_by_piece ["tuples"] (spGroup K) := by
  refine T.F_grouped_by_piece.ok sc_grouped_by_piece (fun vs H Q E (h : spGroup K vs H Q E) => by obtain ⟨v, ts, d, rfl, _⟩ := h; rfl) (fun cdv A outer s H vs Q E hr h => ⟨_, (pss_cons (ps_set (i := 1) sc_grouped_by_piece.nd rfl (Or.inl rfl) pe_dnewT)
  (pss_cons (ps_for PassesOwn.never rfl (k_pi_list (K := K) rfl (pv 0)) (pg_name (i := 2) sc_grouped_by_piece.nd rfl (Or.inl rfl))
  (pss_one (ps_if (pt_cmp (pc_dnotin (u1 hr) (pv 2) (pv 1)))
  (pss_cons (ps_set (i := 3) sc_grouped_by_piece.nd rfl (Or.inl rfl) (pe_call (ok_piece_around T) (hr.mono (by decide)) (by rfl) T.m_piece_around T.F_piece_around.kp T.b_piece_around .nil pass0 (pa_cons (pv 2) (pa_cons (pv 0) pa_nil))))
  (pss_one (ps_for PassesOwn.never rfl (k_pi_list (K := K) rfl (pv 3)) (pg_name (i := 4) sc_grouped_by_piece.nd rfl (Or.inl rfl))
  (pss_one (ps_dput (u1 hr) (pv 1) (pv 4) (pv 3) rfl)))))
  pss_nil)))
  (pss_one (ps_ret (pv 1))))), ?_⟩)
  obtain ⟨v, ts, d, rfl, r1, hd, ht, hd2, hz, q⟩ := h
  refine q_dnewT fun p H1 hp e1 h1 => ?_
  have j0 : ∀ t : Tp Int, (valV ([] : List (List Key × V)) (tkey t)).isSome = true → t ∈ ts := fun t z => by rw [valV_nil] at z; cases z
  have j1 : ∀ t : Tp Int, t ∈ ts.take 0 → (valV ([] : List (List Key × V)) (tkey t)).isSome = true := fun t z => absurd z (by rw [List.take_zero]; exact List.not_mem_nil)
  refine q_forV (K := K) (xs := ts) (v := v) rfl r1 e1 (fun i σ' H' => ∃ (kvs : List (List Key × V)) (o2 o3 o4 : Option V), σ' = [some v, some (.ref p), o2, o3, o4] ∧ H' p = some (.dT kvs) ∧ kvs.length ≤ i * 64 ∧ (∀ t : Tp Int, (valV kvs (tkey t)).isSome = true → t ∈ ts) ∧ ∀ t : Tp Int, t ∈ ts.take i → (valV kvs (tkey t)).isSome = true)
    ⟨[], _, _, _, rfl, h1, by simp, j0, j1⟩ ?_ ?_
  · rintro i x w' σ' H2 hi e2 rx ⟨kvs, o2, o3, o4, rfl, hp2, hkl, hk1, hk2⟩
    have hm := List.mem_of_getElem? hi
    have hil : i < ts.length := (List.getElem?_eq_some_iff.mp hi).1
    refine s_if (K := K) (b := !(valV kvs (tkey x)).isSome) (et_test (er_dnotinT (ev_var rfl) (er_var rfl rx e2) hp2)) (fun hb H3 e3 => ?_) (fun hb H3 e3 => ?_)
    · refine q_setLP (lp_piece (x := x) (ts := ts) (d := d) (er_var rfl rx (e2.trans e3)) (er_var rfl r1 (e2.trans e3)) hd ht hd2 hm hz) fun p3 H4 zs hp3 e4 o4 hzs => ?_
      have hp4 := (e3.trans e4) _ _ hp2
      have hne : p ≠ p3 := fun z => by rw [← z, e3 _ _ hp2] at hp3; cases hp3
      have oc := own_cutX o4 (q := p) (fun xs z => absurd (hp4.symm.trans z) (fun w => by cases w)) hne
      have eG : Ex H (Z.cut H4 p) := ex_cut (e2.trans (e3.trans e4)) hp
      refine s_forV (K := K) (xs := zs) (v := .ref p3) rfl oc.rep cut_ex (fun j σ' H' => ∃ (kvs' : List (List Key × V)) (o4 : Option V), σ' = [some v, some (.ref p), some w', some (.ref p3), o4] ∧ H' p = some (.dT kvs') ∧ kvs'.length ≤ i * 64 + j ∧ (∀ t : Tp Int, (valV kvs' (tkey t)).isSome = true → t ∈ ts) ∧ (∀ t : Tp Int, (valV kvs (tkey t)).isSome = true → (valV kvs' (tkey t)).isSome = true) ∧ ∀ t : Tp Int, t ∈ zs.take j → (valV kvs' (tkey t)).isSome = true)
        ⟨kvs, _, rfl, hp4, hkl, hk1, fun t z => z, fun t z => absurd z (by rw [List.take_zero]; exact List.not_mem_nil)⟩ ?_ ?_
      · rintro j y w2 σ' H5 hj e5 ry ⟨kvs', o4', rfl, hp5, hl', h1', h2', h3'⟩
        have hym := hzs.2.1 y (List.mem_of_getElem? hj)
        have hjl : j < zs.length := (List.getElem?_eq_some_iff.mp hj).1
        refine s_dputT (K := K) (v := .ref p3) (ev_var rfl) (fun H9 e9 => ev_var rfl) (fun H9 e9 => er_var rfl ry (e5.trans e9)) hp5 (by omega) fun H6 k6 t6 h6 => ⟨k6 _ e5 cut_same, _, _, rfl, h6, ?_, fun t z => ?_, fun t z => ?_, fun t z => ?_⟩
        · have := length_putK kvs' (tkey y) (.ref p3)
          omega
        · rw [valV_put] at z
          by_cases hty : tkey t = tkey y
          · rw [tkey_inj hty]
            exact hym
          · rw [if_neg hty] at z
            exact h1' t z
        · rw [valV_put]
          split
          · rfl
          · exact h2' t z
        · rw [valV_put]
          rw [take_succ_get hj] at z
          rcases List.mem_append.mp z with z | z
          · split
            · rfl
            · exact h3' t z
          · rw [List.mem_singleton.mp z, if_pos rfl]
            rfl
      · rintro σ' H5 e5 ⟨kvs', o4', rfl, hp5, hl', h1', h2', h3'⟩
        rw [List.take_length] at h3'
        refine ⟨eG.trans e5, kvs', _, _, _, rfl, hp5, by omega, h1', fun t z => ?_⟩
        rw [take_succ_get hi] at z
        rcases List.mem_append.mp z with z | z
        · exact h2' t (hk2 t z)
        · rw [List.mem_singleton.mp z]
          exact h3' x hzs.1
    · refine ⟨e2.trans e3, kvs, _, _, _, rfl, e3 _ _ hp2, by omega, hk1, fun t z => ?_⟩
      rw [take_succ_get hi] at z
      rcases List.mem_append.mp z with z | z
      · exact hk2 t z
      · rw [List.mem_singleton.mp z]
        simpa using hb
  · rintro σ' H2 e2 ⟨kvs, o2, o3, o4, rfl, hp2, hkl, hk1, hk2⟩
    rw [List.take_length] at hk2
    refine ⟨_, rfl, q p H2 kvs hp e2 hp2 fun t => ?_⟩
    rw [Bool.eq_iff_iff, decide_eq_true_eq]
    exact ⟨hk1 t, hk2 t⟩
end
set_option Elab.async false
set_option linter.all false
set_option maxRecDepth 100000
set_option maxHeartbeats 400000
set_option autoImplicit false
open PySem L2 Z
open Evl (Ex)
section
variable {K : PySem.W.Frag} {α : Type} [Dat α] {σ : L2.St} {H : Hp} {te tv : TE} {u : TS} {D : Ends}
theorem q_drop (h : te σ H fun _ H' => u D σ H') : tSeq (tDrop te) u D σ H := h
theorem s_fld {x C dx : Addr} {fs : List (Str × V)} {f : Str} {v : V} (hv : EV K tv σ H v) (hs : σ[0]? = some (some (.ref x))) (h : H x = some (.ins C dx fs)) (cl : Cls K C) (na : NoAttr K C f) (hl : fs.length < 1000)
    (k : ∀ H1, Ex H H1 → D.nx σ (upd H1 x (.ins C dx (putF f v fs)))) : sFld K (tVar 0) tv f D σ H := hv H (Ex.refl _) _ fun H1 e1 => ⟨_, hs, x, C, dx, fs, rfl, e1 _ _ h, cl, na, hl, k H1 e1⟩
theorem q_fld {x C dx : Addr} {fs : List (Str × V)} {f : Str} {v : V} (hv : EV K tv σ H v) (hs : σ[0]? = some (some (.ref x))) (h : H x = some (.ins C dx fs)) (cl : Cls K C) (na : NoAttr K C f) (hl : fs.length < 1000)
    (k : ∀ H1, Ex H H1 → u D σ (upd H1 x (.ins C dx (putF f v fs)))) : tSeq (sFld K (tVar 0) tv f) u D σ H := s_fld (D := { D with nx := u D }) hv hs h cl na hl k
theorem s_fldL {x C dx : Addr} {fs : List (Str × V)} {f : Str} {xs : List α} (hv : EL K tv σ H xs) (hs : σ[0]? = some (some (.ref x))) (h : H x = some (.ins C dx fs)) (cl : Cls K C) (na : NoAttr K C f) (hl : fs.length < 1000)
    (k : ∀ p H1, H p = none → Ex H H1 → Own K H1 p xs → D.nx σ (upd H1 x (.ins C dx (putF f (.ref p) fs)))) : sFld K (tVar 0) tv f D σ H := hv H (Ex.refl _) _ fun p H1 hp e1 o => ⟨_, hs, x, C, dx, fs, rfl, e1 _ _ h, cl, na, hl, k p H1 hp e1 o⟩
theorem q_fldL {x C dx : Addr} {fs : List (Str × V)} {f : Str} {xs : List α} (hv : EL K tv σ H xs) (hs : σ[0]? = some (some (.ref x))) (h : H x = some (.ins C dx fs)) (cl : Cls K C) (na : NoAttr K C f) (hl : fs.length < 1000)
    (k : ∀ p H1, H p = none → Ex H H1 → Own K H1 p xs → u D σ (upd H1 x (.ins C dx (putF f (.ref p) fs)))) : tSeq (sFld K (tVar 0) tv f) u D σ H := s_fldL (D := { D with nx := u D }) hv hs h cl na hl k
theorem own_updI {p x C dx : Addr} {fs : List (Str × V)} {xs : List α} {o' : HO} [Flat α] (o : Own K H p xs) (hx : H x = some (.ins C dx fs)) : Own K (upd H x o') p xs := by
  obtain ⟨vs, h1, r1⟩ := o.ex
  have ne : p ≠ x := fun z => by rw [z, hx] at h1; cases h1
  refine ⟨vs, by rw [upd_ne ne]; exact h1, ?_⟩
  rw [cut_upd_ne (Ne.symm ne)]
  exact r1.imm (Tups.insU ((cut_ne (Ne.symm ne)).trans hx))
end
section
variable {P : Program} {w : World} {K : PySem.W.Frag} {mg : Str → Option Value} {base : Heap} {a : Ad}
/-- a kind: its name, its width, its tuples -/
def KindAt (K : PySem.W.Frag) (C : Addr) (H : Hp) (k : Addr) (nm : Str) (wd : Nat) (ts : List (Tp Int)) : Prop :=
  ∃ (dx pt d : Addr) (kvs : List (List Key × V)), H k = some (.ins C dx [("name", .str nm), ("width", .int wd), ("tuples", .ref pt), ("grouped", .ref d)]) ∧ Z.Own K H pt (srtK (codeT 64) ts) ∧ H d = some (.dT kvs) ∧ ∀ t : Tp Int, (valV kvs (tkey t)).isSome = decide (t ∈ ts)
theorem KindAt.mono {C k : Addr} {G H : Hp} {nm : Str} {wd : Nat} {ts : List (Tp Int)} (e : Ex G H) (h : KindAt K C G k nm wd ts) : KindAt K C H k nm wd ts := by
  obtain ⟨dx, pt, d, kvs, h1, h2, h3, h4⟩ := h
  exact ⟨dx, pt, d, kvs, e _ _ h1, h2.mono e, e _ _ h3, h4⟩
def spKind (K : PySem.W.Frag) (C : Addr) : Sp := fun vs H Q _ => ∃ (x : Addr) (nm : Str) (wd : Nat) (v : V) (ts : List (Tp Int)), vs = [.ref x, .str nm, .int wd, v] ∧ (∃ dx, H x = some (.ins C dx [])) ∧ (∃ c, nm = ⟨#[c]⟩ ∧ c ∈ abc.cps.toList) ∧ 1 ≤ wd ∧ wd ≤ 4 ∧ Rep K H v ts ∧ Tabs wd ts ∧ ts.Nodup ∧ ts.length < 64 ∧
  ∀ H', Ex (Z.cut H x) (Z.cut H' x) → KindAt K C H' x nm wd ts → (∀ q, (∃ ws, H q = some (.lst ws)) → KindAt K C (Z.cut H' q) x nm wd ts) → Q .non H'
set_option maxHeartbeats 1600000 in
theorem ok_Kindw_initw (T : Txt P K mg a) : FnOk P w K mg base (L2.CX P w) 4 a.f_Kindw_initw a.d_Kindw_initw ["self", "name", "width", "tuples"] (spKind K a.C_Kind) := by
  refine T.F_Kindw_initw.okX sc_Kindw_initw (fun vs H Q E (h : spKind K a.C_Kind vs H Q E) => by obtain ⟨x, nm, wd, v, ts, rfl, _⟩ := h; rfl) (fun cdv A outer s H vs Q E hr h => ?_)
  obtain ⟨x, nm, d, v, ts, rfl, ⟨dx, hx0⟩, hnm, hd, hd4, r1, ht, hnd, hz, q⟩ := h
  refine ⟨_, (pss_cons (ps_if (pt_not (pt_val (pe_call (ok_is_name T) (hr.mono (by decide)) (by rfl) T.m_is_name T.F_is_name.kp T.b_is_name .nil pass0 (pa_cons (pv 1) pa_nil))))
  (pss_one (ps_raise rfl (takes_of rfl rfl rfl rfl) (pmk_oex T.S_BadKindw_initw.T T.i_BadKindw_initw T.ti_BadKindw_initw (ok_BadKindw_initw T) (hr.mono (by decide)) T.b_BadKindw_initw .nil pass0 (by rfl) T.m_BadKind (pa_cons (pe_un un_neg pe_int) pa_nil))))
  pss_nil)
  (pss_cons (ps_expr (pe_call (ok_check_width T) (hr.mono (by decide)) (by rfl) T.m_check_width T.F_check_width.kp T.b_check_width .nil passN (pa_cons (pv 2) pa_nil)))
  (pss_cons (ps_set (i := 4) sc_Kindw_initw.nd rfl (Or.inl rfl) pe_dnewT)
  (pss_cons (ps_for (passes_of rfl) rfl (k_pi_enum (K := K) rfl (pi_enum (by rfl) T.z_enumerate (pa_cons (pv 3) pa_nil))) (k_pg_tup (K := K) rfl (pg_tup (n := 2) (by rfl) (pgs_cons (pg_name (i := 5) sc_Kindw_initw.nd rfl (Or.inl rfl)) (pgs_cons (pg_name (i := 6) sc_Kindw_initw.nd rfl (Or.inl rfl)) pgs_nil))))
  (pss_cons (ps_if (PW.pt (pw_or (pt_not (pt_val (pe_call (ok_is_binary T) (hr.mono (by decide)) (by rfl) T.m_is_binary T.F_is_binary.kp T.b_is_binary .nil pass0 (pa_cons (pv 6) (pa_cons (pv 2) pa_nil))))) (pw_or1 (pt_cmp (pc_din (u1 hr) (pv 6) (pv 4))))))
  (pss_one (ps_raise rfl (takes_of rfl rfl rfl rfl) (pmk_oex T.S_BadKindw_initw.T T.i_BadKindw_initw T.ti_BadKindw_initw (ok_BadKindw_initw T) (hr.mono (by decide)) T.b_BadKindw_initw .nil pass0 (by rfl) T.m_BadKind (pa_cons (pv 5) pa_nil))))
  pss_nil)
  (pss_one (ps_dput (u1 hr) (pv 4) (pv 6) (pv 5) rfl))))
  (pss_cons (k_ps_fld (K := K) rfl (ps_fld (pv 0) (pv 1) rfl))
  (pss_cons (k_ps_fld (K := K) rfl (ps_fld (pv 0) (pv 2) rfl))
  (pss_cons (k_ps_fld (K := K) rfl (ps_fld (pv 0) (pe_callB (k_cr_sortT (K := K) (d := d) (B := 64) rfl hd) (by rfl) T.z_sorted (by decide +kernel) (pa_cons (pe_callTy (call_list_dT rfl) (by rfl) T.z_list (by decide +kernel) (pa_cons (pv 4) pa_nil)) pa_nil)) rfl))
  (pss_one (k_ps_fld (K := K) rfl (ps_fld (pv 0) (pe_call (ok_grouped_by_piece T) (hr.mono (by decide)) (by rfl) T.m_grouped_by_piece T.F_grouped_by_piece.kp T.b_grouped_by_piece .nil pass0 (pa_cons (k_pe_fld (K := K) rfl (pe_fld (pv 0) (by rfl))) pa_nil)) rfl)))))))))), ?_⟩
  refine q_ifF (K := K) (et_not (et_test (er_c1 (x := nm) (er_vstr rfl) hnm))) rfl fun H1 e1 => ?_
  refine q_drop (ER.evI (K := K) (er_vint rfl) H1 (Ex.refl _) _ fun H2 e2 => ⟨(d : Int), rfl, by omega, by omega, fun H3 e3 => ?_⟩)
  refine q_dnewT fun p H4 hp e4 h4 => ?_
  have e04 := e1.trans (e2.trans (e3.trans e4))
  have hpH : H p = none := fresh_back (e1.trans (e2.trans e3)) hp
  refine q_enumGV (K := K) (xs := ts) (v := v) rfl r1 e04 (fun i σ' H' => ∃ (kvs : List (List Key × V)) (o5 o6 : Option V), σ' = [some (.ref x), some (.str nm), some (.int d), some v, some (.ref p), o5, o6] ∧ H' p = some (.dT kvs) ∧ kvs.map (·.1) = (ts.take i).map tkey)
    ⟨[], _, _, rfl, h4, by rw [List.take_zero]; rfl⟩ ?_ ?_
  · rintro i t w' σ' H5 H6 hi e5 e6 rt ⟨kvs, o5, o6, rfl, hp5, hk⟩
    have hm := List.mem_of_getElem? hi
    have htt := ht t hm
    have hnew : valV kvs (tkey t) = none := valV_none.mpr fun z => by
      rw [hk] at z
      obtain ⟨t', ht', hkt⟩ := List.mem_map.mp z
      rw [tkey_inj hkt] at ht'
      obtain ⟨j, hj, hjt⟩ := List.getElem_of_mem ht'
      rw [List.length_take] at hj
      rw [List.getElem_take] at hjt
      have hij : ts[j]? = ts[i]? := by rw [hi, List.getElem?_eq_getElem (by omega), hjt]
      have := (List.getElem?_inj (by omega) hnd).mp hij
      omega
    refine ⟨rfl, ?_⟩
    refine q_ifF (K := K) (et_orU (et_not (et_test (er_c2 (x := t) (y := (d : Int)) (er_var rfl rt (e5.trans e6)) (er_vint rfl) (by have := htt.1; show List.length t ≤ 100000; have : List.length t = d := htt.1; omega)))) (et_test (er_dinT (ev_var rfl) (er_var rfl rt (e5.trans e6)) (e6 _ _ hp5)))) ?_ fun H7 e7 => ?_
    · rw [hnew, show isB (L t) (d : Int) = true from isB_iff.mpr ⟨by rw [htt.1], htt.2⟩]
      rfl
    · have hkl : kvs.length = (ts.take i).length := by
        have := congrArg List.length hk
        rwa [List.length_map, List.length_map] at this
      rw [List.length_take] at hkl
      refine s_dputT (K := K) (v := .int i) (ev_var rfl) (fun H9 e9 => ev_var rfl) (fun H9 e9 => er_var rfl rt (e5.trans (e6.trans (e7.trans e9)))) (e7 _ _ (e6 _ _ hp5)) (by omega) fun H8 k8 t8 h8 => ⟨k8 _ (e5.trans (e6.trans e7)) hpH, _, _, _, rfl, h8, ?_⟩
      rw [putK_new _ hnew, List.map_append, hk, take_succ_get hi, List.map_append]
      rfl
  · rintro σ' H5 e5 ⟨kvs, o5, o6, rfl, hp5, hk⟩
    rw [List.take_length] at hk
    have hx5 := e5 _ _ hx0
    refine q_fld (K := K) (v := .str nm) (ev_var rfl) rfl hx5 T.cl_Kind T.na_Kind_name (by decide) fun H6 e6 => ?_
    refine q_fld (K := K) (v := .int d) (ev_var rfl) rfl upd_same T.cl_Kind T.na_Kind_width (by show 1 < 1000; decide) fun H7 e7 => ?_
    have hxp : p ≠ x := fun z => by rw [z, hx5] at hp5; cases hp5
    have hx7 := e7 _ _ (upd_same (H := H6) (a := x) (o := .ins a.C_Kind dx (putF "name" (.str nm) [])))
    have hpc : ∀ {Hq : Hp} {o : HO}, Hq p = some (.dT kvs) → (upd Hq x o) p = some (.dT kvs) := fun h => by rw [upd_ne hxp]; exact h
    have hp7 := hpc (o := .ins a.C_Kind dx (putF "width" (.int d) (putF "name" (.str nm) []))) (e7 _ _ (hpc (o := .ins a.C_Kind dx (putF "name" (.str nm) [])) (e6 _ _ hp5)))
    refine q_fldL (K := K) (xs := srtK (codeT 64) ts) (el_sortU (EL.er (el_listD (ts := ts) (ev_var rfl) hp7 hk)) hz ht.rows) rfl upd_same T.cl_Kind T.na_Kind_tuples (by show 2 < 1000; decide) fun pt H8 hpt e8 o8 => ?_
    have hx8 := e8 _ _ (upd_same (H := H7) (a := x) (o := .ins a.C_Kind dx (putF "width" (.int d) (putF "name" (.str nm) []))))
    have o8' := own_updI (o' := .ins a.C_Kind dx (putF "tuples" (.ref pt) (putF "width" (.int d) (putF "name" (.str nm) [])))) o8 hx8
    -- the heap without x, all along
    have c7 : Ex (Z.cut H x) (upd (upd H6 x (.ins a.C_Kind dx (putF "name" (.str nm) []))) x (.ins a.C_Kind dx (putF "name" (.str nm) []))) := ex_mut (ex_mut ((cut_ex.trans e5).trans e6) cut_same) cut_same
    have c8 : Ex (Z.cut H x) H8 := (ex_mut ((ex_mut ((cut_ex.trans e5).trans e6) cut_same).trans e7) cut_same).trans e8
    refine (em_fld (K := K) (xs := srtK (codeT 64) ts) (ev_var (i := 0) rfl) upd_same (Ex.refl _) T.cl_Kind T.na_Kind_tuples rfl o8').er _ (Ex.refl _) _ fun v9 H9 e9 r9 => ?_
    refine ⟨v9, srtK (codeT 64) ts, d, rfl, r9, hd, fun t z => ht t (srtK_mem.mp z), by omega, by rw [srtK_len]; exact hz, fun g H10 kvs' hg e10 hgd hk' => ?_⟩
    have hx10 := e10 _ _ (e9 _ _ (upd_same (H := H8) (a := x) (o := .ins a.C_Kind dx (putF "tuples" (.ref pt) (putF "width" (.int d) (putF "name" (.str nm) []))))))
    refine ⟨_, rfl, x, a.C_Kind, dx, _, rfl, hx10, T.cl_Kind, T.na_Kind_grouped, by show 3 < 1000; decide, ?_⟩
    have hgx : g ≠ x := fun z => by rw [z, hx10] at hgd; cases hgd
    have c10 : Ex (Z.cut H x) (upd H10 x (.ins a.C_Kind dx (putF "grouped" (.ref g) (putF "tuples" (.ref pt) (putF "width" (.int d) (putF "name" (.str nm) [])))))) := ex_mut ((ex_mut c8 cut_same).trans (e9.trans e10)) cut_same
    have o10 := own_updI (o' := .ins a.C_Kind dx (putF "grouped" (.ref g) (putF "tuples" (.ref pt) (putF "width" (.int d) (putF "name" (.str nm) []))))) (o8'.mono (e9.trans e10)) hx10
    have kk : ∀ t : Tp Int, (valV kvs' (tkey t)).isSome = decide (t ∈ ts) := fun t => (hk' t).trans (by
      rw [Bool.eq_iff_iff, decide_eq_true_eq, decide_eq_true_eq]
      exact srtK_mem)
    have hgd' : (upd H10 x (.ins a.C_Kind dx (putF "grouped" (.ref g) (putF "tuples" (.ref pt) (putF "width" (.int d) (putF "name" (.str nm) [])))))) g = some (.dT kvs') := by rw [upd_ne hgx]; exact hgd
    have at_ : KindAt K a.C_Kind _ x nm d ts := ⟨dx, pt, g, kvs', upd_same, o10, hgd', kk⟩
    refine q _ (ex_cut c10 cut_same) at_ fun qq ⟨ws, hq⟩ => ?_
    have hqx : qq ≠ x := fun z => by rw [z, hx0] at hq; cases hq
    have hq10 := c10 _ _ ((cut_ne hqx).trans hq)
    have hqpt : qq ≠ pt := fun z => by
      have h7 : Ex (Z.cut H x) (upd H7 x (.ins a.C_Kind dx (putF "width" (.int d) (putF "name" (.str nm) [])))) := ex_mut ((ex_mut ((cut_ex.trans e5).trans e6) cut_same).trans e7) cut_same
      have := h7 _ _ ((cut_ne hqx).trans hq)
      rw [z, hpt] at this
      cases this
    refine ⟨dx, pt, g, kvs', by rw [cut_ne (Ne.symm hqx)]; exact upd_same, o10.cut hq10 hqpt, ?_, kk⟩
    have hqg : qq ≠ g := by
      rintro rfl
      exact absurd (hq10.symm.trans hgd') (fun w => by cases w)
    rw [cut_ne (Ne.symm hqg)]
    exact hgd'
def spCont (K : PySem.W.Frag) (C : Addr) : Sp := fun vs H Q _ => ∃ (k : Addr) (v : V) (nm : Str) (wd : Nat) (ts : List (Tp Int)) (t : Tp Int), vs = [.ref k, v] ∧ KindAt K C H k nm wd ts ∧ Rep K H v t ∧ ∀ v H', Ex H H' → Rep K H' v (decide (t ∈ ts)) → Q v H'
theorem ok_Kindw_containsw (T : Txt P K mg a) : FnOk P w K mg base CX0 1 a.f_Kindw_containsw a.d_Kindw_containsw ["self", "values"] (spCont K a.C_Kind) := by
  refine T.F_Kindw_containsw.ok sc_Kindw_containsw (fun vs H Q E (h : spCont K a.C_Kind vs H Q E) => by obtain ⟨k, v, nm, wd, ts, t, rfl, _⟩ := h; rfl) (fun cdv A outer s H vs Q E hr h => ⟨_, (pss_one (ps_ret (pe_cmp (pc_din (u1 hr) (pv 1) (k_pe_fld (K := K) rfl (pe_fld (pv 0) (by rfl))))))), ?_⟩)
  obtain ⟨k, v, nm, wd, ts, t, rfl, ⟨dx, pt, d, kvs, h1, h2, h3, h4⟩, r, q⟩ := h
  exact s_ret (K := K) (x := decide (t ∈ ts)) (ER.is (er_dinT (ev_fld (ev_var (i := 0) rfl) h1 (Ex.refl _) T.cl_Kind T.na_Kind_grouped rfl) (er_var rfl r (Ex.refl _)) h3) (h4 t)) q
/-- a new kind -/
def NewK (K : PySem.W.Frag) (C : Addr) (te : TE) (σ : L2.St) (H : Hp) (nm : Str) (wd : Nat) (ts : List (Tp Int)) : Prop := ∀ H1, Ex H H1 → ∀ Q : VK, (∀ k H2, H1 k = none → Ex H1 H2 → KindAt K C H2 k nm wd ts → (∀ q, (∃ ws, H1 q = some (.lst ws)) → KindAt K C (Z.cut H2 q) k nm wd ts) → Q (.ref k) H2) → te σ H1 Q
theorem new_kind {C : Addr} {E : XK} {tn tw tt : TE} {σ : L2.St} {H : Hp} {nm : Str} {wd : Nat} {ts : List (Tp Int)} (h : ER K tn σ H nm) (h2 : ER K tw σ H (wd : Int)) (h3 : ER K tt σ H ts) (hnm : ∃ c, nm = ⟨#[c]⟩ ∧ c ∈ abc.cps.toList) (hd : 1 ≤ wd) (hd4 : wd ≤ 4)
    (ht : Tabs wd ts) (hnd : ts.Nodup) (hz : ts.length < 64) : NewK K C (tMake C (spKind K C) [] E (tCons tn (tCons tw (tCons tt tNil)))) σ H nm wd ts := fun H1 e1 Q q =>
  h.evS H1 e1 _ fun H2 e2 => h2.evI H2 (e1.trans e2) _ fun H3 e3 => h3 H3 ((e1.trans e2).trans e3) _ fun v H4 e4 r x dx hx hdx hne => by
    have e14 := e2.trans (e3.trans e4)
    have f1 : Ex H4 (upd H4 dx (.own x)) := Evl.Ex.new hdx
    have hx' : (upd H4 dx (.own x)) x = none := by rw [upd_ne (Ne.symm hne)]; exact hx
    have f2 : Ex (upd H4 dx (.own x)) (upd (upd H4 dx (.own x)) x (.ins C dx [])) := Evl.Ex.new hx'
    refine ⟨x, nm, wd, v, ts, rfl, ⟨dx, upd_same⟩, hnm, hd, hd4, r.mono (f1.trans f2), ht, hnd, hz, fun H' ex at_ ac => ⟨rfl, q x H' (fresh_back e14 hx) ?_ at_ fun qq ⟨ws, hq⟩ => ac qq ⟨ws, f2 _ _ (f1 _ _ (e14 _ _ hq))⟩⟩⟩
    rw [cut_updn hx'] at ex
    exact e14.trans (f1.trans (ex.trans cut_ex))
end
set_option Elab.async false
set_option linter.all false
set_option maxRecDepth 100000
set_option maxHeartbeats 400000
set_option autoImplicit false
open PySem L2 Z
open Evl (Ex)
abbrev Itm := Ob × Tp Int
/-- what rules are made of: kinds with their letters; ks: their names and what the law says of them -/
structure ItemsAt (K : PySem.W.Frag) (C : Addr) (H : Hp) (items : List Itm) (ks : List (Str × Ru)) : Prop where
  len : items.length = ks.length
  at_ : ∀ (i : Nat) (it : Itm) (k : Str × Ru), items[i]? = some it → ks[i]? = some k → it.2 = k.2.1 ∧ KindAt K C H it.1.a k.1 (L k.2.1).length k.2.2
theorem ItemsAt.mono {K : PySem.W.Frag} {C : Addr} {G H : Hp} {items : List Itm} {ks : List (Str × Ru)} (e : Ex G H) (h : ItemsAt K C G items ks) : ItemsAt K C H items ks :=
  ⟨h.len, fun i it k h1 h2 => ⟨(h.at_ i it k h1 h2).1, (h.at_ i it k h1 h2).2.mono e⟩⟩
theorem ItemsAt.get {K : PySem.W.Frag} {C : Addr} {H : Hp} {items : List Itm} {ks : List (Str × Ru)} {i : Nat} {it : Itm} (h : ItemsAt K C H items ks) (hi : items[i]? = some it) : ∃ k, ks[i]? = some k ∧ it.2 = k.2.1 ∧ KindAt K C H it.1.a k.1 (L k.2.1).length k.2.2 := by
  have hl := (List.getElem?_eq_some_iff.mp hi).1
  have hk := List.getElem?_eq_getElem (l := ks) (i := i) (by rw [← h.len]; exact hl)
  exact ⟨_, hk, h.at_ i it _ hi hk⟩
/-- an instance of Rules -/
def RulesAt (K : PySem.W.Frag) (C : Addr) (H : Hp) (w : Addr) (n : Nat) (items : List Itm) : Prop := ∃ (dx pr po : Addr), H w = some (.ins C dx [("size", .int n), ("rules", .ref pr), ("on_letter", .ref po)]) ∧ Z.Own K H pr items
theorem RulesAt.mono {K : PySem.W.Frag} {C w : Addr} {G H : Hp} {n : Nat} {items : List Itm} (e : Ex G H) (h : RulesAt K C G w n items) : RulesAt K C H w n items := by
  obtain ⟨dx, pr, po, h1, h2⟩ := h
  exact ⟨dx, pr, po, e _ _ h1, h2.mono e⟩
section
variable {P : Program} {w : World} {K : PySem.W.Frag} {mg : Str → Option Value} {base : Heap} {a : Ad}
theorem er_kf {C k : Addr} {G H : Hp} {σ : L2.St} {te : TE} {nm : Str} {wd : Nat} {ts : List (Tp Int)} (T : Txt P K mg a) (h : EV K te σ H (.ref k)) (at_ : KindAt K a.C_Kind G k nm wd ts) (e : Ex G H) :
    EV K (tFld K te "name") σ H (.str nm) ∧ EV K (tFld K te "width") σ H (.int wd) ∧ ER K (tFld K te "tuples") σ H (srtK (codeT 64) ts) := by
  obtain ⟨dx, pt, d, kvs, h1, h2, h3, h4⟩ := at_
  exact ⟨ev_fld h h1 e T.cl_Kind T.na_Kind_name rfl, ev_fld h h1 e T.cl_Kind T.na_Kind_width rfl, (em_fld h h1 e T.cl_Kind T.na_Kind_tuples rfl h2).er⟩
def spRulesI (K : PySem.W.Frag) (C C2 : Addr) : Sp := fun vs H Q _ => ∃ (x : Addr) (n : Nat) (v : V) (items : List Itm) (ks : List (Str × Ru)), vs = [.ref x, .int n, v] ∧ (∃ dx, H x = some (.ins C dx [])) ∧ n ≤ 14 ∧ items.length ≤ 80 ∧ Rep K H v items ∧ ItemsAt K C2 H items ks ∧ (ks.map (·.1)).Nodup ∧
  (∀ k : Str × Ru, k ∈ ks → Letters (L k.2.1) n ∧ (L k.2.1).length < 1000) ∧ ∀ H', Ex (Z.cut H x) (Z.cut H' x) → RulesAt K C H' x n items → Q .non H'
set_option maxHeartbeats 1600000 in
theorem ok_Rulesw_initw (T : Txt P K mg a) : FnOk P w K mg base (L2.CX P w) 3 a.f_Rulesw_initw a.d_Rulesw_initw ["self", "size", "rules"] (spRulesI K a.C_Rules a.C_Kind) := by
  refine T.F_Rulesw_initw.ok sc_Rulesw_initw (fun vs H Q E (h : spRulesI K a.C_Rules a.C_Kind vs H Q E) => by obtain ⟨x, n, v, items, ks, rfl, _⟩ := h; rfl) (fun A outer s H vs Q E hr h => ⟨_, (pssa_cons (ps_if (PW.pt (pw_or (pt_cmpR op_lt (pv 1) pe_int (nomark _)) (pw_or (pt_cmpR op_gt (pv 1) (k_pe_cval (K := K) rfl (ClX.pe_cval (pe_glob (v := .ref a.C_Rules) (by rfl) T.m_Rules rfl))) (nomark _)) (pw_or1 (pt_cmpR op_gt (pe_callB (k_call_len_seq (K := K) rfl) (by rfl) T.z_len (by decide +kernel) (pa_cons (pv 2) pa_nil)) (k_pe_cval (K := K) rfl (ClX.pe_cval (pe_glob (v := .ref a.C_Rules) (by rfl) T.m_Rules rfl))) (nomark _))))))
  (pss_one (ps_raise rfl (takes_of rfl rfl rfl rfl) (pmk_oex T.S_BadRulew_initw.T T.i_BadRulew_initw T.ti_BadRulew_initw (ok_BadRulew_initw T) (hr.mono (by decide)) T.b_BadRulew_initw .nil pass0 (by rfl) T.m_BadRule (pa_cons (pe_un un_neg pe_int) pa_nil))))
  pss_nil)
  (pssa_cons (ps_set (i := 3) sc_Rulesw_initw.nd rfl (Or.inl rfl) pe_dnewK)
  (pssa_cons (ps_for (passes_of rfl) rfl (k_pi_enum (K := K) rfl (pi_enum (by rfl) T.z_enumerate (pa_cons (pv 2) pa_nil))) (k_pg_tup (K := K) rfl (pg_tup (n := 2) (by rfl) (pgs_cons (pg_name (i := 4) sc_Rulesw_initw.nd rfl (Or.inl rfl)) (pgs_cons (k_pg_tup (K := K) rfl (pg_tup (n := 2) (by rfl) (pgs_cons (pg_name (i := 5) sc_Rulesw_initw.nd rfl (Or.inl rfl)) (pgs_cons (pg_name (i := 6) sc_Rulesw_initw.nd rfl (Or.inl rfl)) pgs_nil)))) pgs_nil))))
  (pss_cons (ps_if (pt_not (pt_val (pe_call (ok_are_letters T) (hr.mono (by decide)) (by rfl) T.m_are_letters T.F_are_letters.kp T.b_are_letters .nil pass0 (pa_cons (pv 6) (pa_cons (k_pe_fld (K := K) rfl (pe_fld (pv 5) (by rfl))) (pa_cons (pv 1) pa_nil))))))
  (pss_one (ps_raise rfl (takes_of rfl rfl rfl rfl) (pmk_oex T.S_BadRulew_initw.T T.i_BadRulew_initw T.ti_BadRulew_initw (ok_BadRulew_initw T) (hr.mono (by decide)) T.b_BadRulew_initw .nil pass0 (by rfl) T.m_BadRule (pa_cons (pv 4) pa_nil))))
  pss_nil)
  (pss_cons (ps_set (i := 7) sc_Rulesw_initw.nd rfl (Or.inl rfl) (pe_dsetd (pv 3) (k_pe_fld (K := K) rfl (pe_fld (pv 5) (by rfl))) (pv 5) ⟨rfl, rfl, rfl, rfl⟩))
  (pss_one (ps_if (PW.pt (pw_or (pt_cmpR op_ne (k_pe_fld (K := K) rfl (pe_fld (pv 7) (by rfl))) (k_pe_fld (K := K) rfl (pe_fld (pv 5) (by rfl))) (nomark _)) (pw_or1 (pt_cmpR (k_op_neD (K := K) rfl hr.units) (k_pe_fld (K := K) rfl (pe_fld (pv 7) (by rfl))) (k_pe_fld (K := K) rfl (pe_fld (pv 5) (by rfl))) (nomark _)))))
  (pss_one (ps_raise rfl (takes_of rfl rfl rfl rfl) (pmk_oex T.S_BadRulew_initw.T T.i_BadRulew_initw T.ti_BadRulew_initw (ok_BadRulew_initw T) (hr.mono (by decide)) T.b_BadRulew_initw .nil pass0 (by rfl) T.m_BadRule (pa_cons (pv 4) pa_nil))))
  pss_nil)))))
  (pssa_supM T.F_Rulesw_initw sc_Rulesw_initw rfl rfl (ok_Worldw_initw T) (hr.mono (by decide)) T.b_Worldw_initw pass0 (pa_cons (pv 1) pa_nil) (pssa_of (pss_cons (k_ps_fld (K := K) rfl (ps_fld (pv 0) (pe_lc (own := [("kind", 5), ("letters", 6)]) rfl sc_Rulesw_initw.nd (k_pi_list (K := K) rfl (pv 2)) (blkOk_by (own := [("kind", 5), ("letters", 6)]) (N := N_Rulesw_initw) (sc := defScope s_Rulesw_initw) (by decide +kernel)) (fun _ _ _ _ _ => (k_pg_tup (K := K) rfl (pg_tup (n := 2) (by rfl) (pgs_cons (pg_name (i := 5) sc_Rulesw_initw.nd rfl (Or.inl rfl)) (pgs_cons (pg_name (i := 6) sc_Rulesw_initw.nd rfl (Or.inl rfl)) pgs_nil))))) (fun _ _ _ _ _ => pts_nil) (fun _ _ _ _ _ => (pe_tup (pa_cons (pv 5) (pa_cons (pe_callTy (k_call_tuple_of (K := K) rfl) (by rfl) T.z_tuple (by decide +kernel) (pa_cons (pv 6) pa_nil)) pa_nil))))) rfl))
  (pss_one (k_ps_fld (K := K) rfl (ps_fld (pv 0) (pe_lc (own := [("letter", 8)]) rfl sc_Rulesw_initw.nd (pi_range1 (by rfl) T.z_range (pa_cons (pv 1) pa_nil)) (blkOk_by (own := [("letter", 8)]) (N := N_Rulesw_initw) (sc := defScope s_Rulesw_initw) (by decide +kernel)) (fun _ _ _ _ _ => (pg_name (i := 8) sc_Rulesw_initw.nd rfl (Or.inr rfl))) (fun _ _ _ _ _ => pts_nil) (fun _ _ _ _ _ => (pe_lc (own := [("index", 4), ("rule", 9)]) rfl sc_Rulesw_initw.nd (k_pi_enum (K := K) rfl (pi_enum (by rfl) T.z_enumerate (pa_cons (pv 2) pa_nil))) (blkOk_by (own := [("index", 4), ("rule", 9)]) (N := N_Rulesw_initw) (sc := { kind := .function, names := [(".0", .local), ("letter", .cell), ("enumerate", .globalImplicit), ("rules", .cell)], isGenerator := false, isCoroutine := false }) (by decide +kernel)) (fun _ _ _ _ _ => (k_pg_tup (K := K) rfl (pg_tup (n := 2) (by rfl) (pgs_cons (pg_name (i := 4) sc_Rulesw_initw.nd rfl (Or.inl rfl)) (pgs_cons (pg_name (i := 9) sc_Rulesw_initw.nd rfl (Or.inl rfl)) pgs_nil))))) (fun _ _ _ _ _ => (pts_one (pt_cmpR (k_op_in_seq (K := K) rfl) (pv 8) (pe_ix (k_ix_tup (K := K) rfl) (pv 9) pe_int (fun _ _ => rfl)) (by with_unfolding_all rfl)))) (fun _ _ _ _ _ => (pv 4))))) rfl))))))))), ?_⟩)
  obtain ⟨x, n, v, items, ks, rfl, ⟨dx, hx0⟩, hn, hl80, r1, hat, hnd, hlt, q⟩ := h
  refine q_ifF (K := K) (et_orU (et_test (er_lt (er_vint rfl) er_int)) (et_orU (et_test (er_gt (er_vint rfl) (er_cval T.cr_Rules T.cv_Rules_MOST_LETTERS))) (et_test (er_gt (ed_lenL (er_var rfl r1 (Ex.refl _))) (er_cval T.cr_Rules T.cv_Rules_MOST_RULES))))) (by simp; omega) fun H1 e1 => ?_
  refine q_dnewK fun p H2 hp e2 h2 => ?_
  have e02 := e1.trans e2
  have hpH : H p = none := fresh_back e1 hp
  refine q_enumGV (K := K) (xs := items) (v := v) rfl r1 e02 (fun i σ' H' => ∃ (kvs : List (Key × V)) (o4 o5 o6 o7 : Option V), σ' = [some (.ref x), some (.int n), some v, some (.ref p), o4, o5, o6, o7, none, none] ∧ H' p = some (.dK kvs) ∧ kvs.map (·.1) = (ks.take i).map fun k => Sum.inr k.1)
    ⟨[], _, _, _, _, rfl, h2, by rw [List.take_zero]; rfl⟩ ?_ ?_
  · rintro i it w' σ' H3 H4 hi e3 e4 rt ⟨kvs, o4, o5, o6, o7, rfl, hp3, hk⟩
    obtain ⟨k, hki, hkl, kat⟩ := hat.get hi
    have hm := hlt k (List.mem_of_getElem? hki)
    refine g_pairR (K := K) (rt.mono (e3.trans e4)) fun u1 u2 ru1 ru2 => ⟨rfl, ?_⟩
    obtain rfl := Rep.obj ru1
    rw [hkl] at ru2
    have e04 := e3.trans e4
    have kf := fun {σ : L2.St} {H : Hp} {te : TE} (h : EV K te σ H (.ref it.1.a)) (e : Ex _ H) => er_kf T h kat e (C := a.C_Kind)
    refine q_ifF (K := K) (et_not (et_test (er_c3 (x := k.2.1) (y := ((L k.2.1).length : Int)) (z := (n : Int)) (er_var rfl ru2 (Ex.refl _)) ((kf (ev_var rfl) e04).2.1.er (rep_int _)) (er_vint rfl) ⟨hm.1, rfl, hm.2⟩))) rfl fun H5 e5 => ?_
    have hnew : valV kvs (Sum.inr k.1) = none := valV_none.mpr fun z => by
      rw [hk] at z
      obtain ⟨k', hk', hkk⟩ := List.mem_map.mp z
      injection hkk with hkk
      obtain ⟨j, hj, hjt⟩ := List.getElem_of_mem hk'
      rw [List.length_take] at hj
      rw [List.getElem_take] at hjt
      have h1 : (ks.map (·.1))[j]? = some k.1 := by rw [List.getElem?_map, List.getElem?_eq_getElem (by omega), hjt, ← hkk]; rfl
      have h2 : (ks.map (·.1))[i]? = some k.1 := by rw [List.getElem?_map, hki]; rfl
      have hil : i < (ks.map (·.1)).length := (List.getElem?_eq_some_iff.mp h2).1
      have := (List.getElem?_inj (by rw [List.length_map]; omega) hnd).mp (h1.trans h2.symm)
      omega
    have hkvl : kvs.length ≤ i := by
      have := congrArg List.length hk
      rw [List.length_map, List.length_map, List.length_take] at this
      omega
    have hil : i < items.length := (List.getElem?_eq_some_iff.mp hi).1
    refine q_setdN (K := K) (nm := k.1) (v := .ref it.1.a) (ev_var rfl) (fun H9 e9 => (kf (ev_var rfl) (e04.trans (e5.trans e9))).1) (fun H9 e9 => ev_var rfl) (e5 _ _ (e4 _ _ hp3)) (by omega) hnew fun H6 k6 t6 h6 => ?_
    have e06 : Ex H H6 := k6 _ (e04.trans e5) hpH
    refine s_ifF (K := K) (b := (!decide (((L k.2.1).length : Int) = (L k.2.1).length)) || !decide (srtK (codeT 64) k.2.2 = srtK (codeT 64) k.2.2)) (et_orU (et_test (er_neI ((kf (ev_var rfl) e06).2.1.er (rep_int _)) ((kf (ev_var rfl) e06).2.1.er (rep_int _)))) (et_test (er_neD (kf (ev_var rfl) e06).2.2 (kf (ev_var rfl) e06).2.2))) (by simp) fun H7 e7 => ?_
    refine ⟨e06.trans e7, _, _, _, _, _, rfl, e7 _ _ h6, ?_⟩
    rw [putK_new _ hnew, List.map_append, hk, take_succ_get hki, List.map_append]
    rfl
  · rintro σ' H3 e3 ⟨kvs, o4, o5, o6, o7, rfl, hp3, hk⟩
    have hx3 := e3 _ _ hx0
    refine ⟨x, a.C_Rules, dx, [], rfl, hx3, T.S_Rulesw_initw, fun qm hqm hqx => ⟨_, rfl, upd_same, x, a.C_Rules, dx, [], n, rfl, by rw [upd_ne (Ne.symm hqx)]; exact hx3, by decide, T.cl_Rules, T.na_Rules_size, ?_⟩⟩
    have c0 : Ex (Z.cut H x) (upd (upd H3 qm (.met a.f_Worldw_initw x)) x (.ins a.C_Rules dx (putF "size" (.int n) []))) := ex_mut ((cut_ex.trans e3).trans (Evl.Ex.new hqm)) cut_same
    have rc := rep_cutI r1 hx0
    refine q_fldL (K := K) (xs := items) (EL.is (el_genA (β := Itm) (xs := items) (f := fun p => (p.1, p.2)) (in_list (er_var rfl rc c0)).pairs (g_two (m := 5) (n := 6) (by decide) (fun _ _ _ _ e r => r.mono e) (fun _ _ _ _ e r => r.mono e)) (fun z σ2 H4 hz e4 s4 => ?_) (by omega)) (List.map_id' items)) rfl upd_same T.cl_Rules T.na_Rules_rules (by show 1 < 1000; decide) fun pr H4 hpr e4 o4 => ?_
    · obtain ⟨u1, u2, rfl, ru1, ru2⟩ := s4
      exact er_pair (er_var rfl ru1 (Ex.refl _)) (er_tupleT (er_var rfl ru2 (Ex.refl _)))
    have hx4 := e4 _ _ (upd_same (H := upd H3 qm (.met a.f_Worldw_initw x)) (a := x) (o := .ins a.C_Rules dx (putF "size" (.int n) [])))
    have c4 : Ex (Z.cut H x) (upd H4 x (.ins a.C_Rules dx (putF "rules" (.ref pr) (putF "size" (.int n) [])))) := ex_mut (c0.trans e4) cut_same
    have o4' := own_updI (o' := .ins a.C_Rules dx (putF "rules" (.ref pr) (putF "size" (.int n) []))) o4 hx4
    refine s_fldL (K := K) (xs := (List.range (n : Int).toNat).map fun l => (((List.range items.length).zip items).filter fun p => decide (((l : Nat) : Int) ∈ L p.2.2)).map fun p => ((p.1 : Nat) : Int)) (el_genLA (in_rng (K := K) (er_vint rfl) (by omega) (by omega)) (g_name (i := 8) fun _ _ _ _ _ r => r) (fun l σ2 H5 hl e5 s5 => ?_) (by rw [List.length_range]; omega)) rfl upd_same T.cl_Rules T.na_Rules_on_letter (by show 2 < 1000; decide) fun po H5 hpo e5 o5 => ?_
    · obtain ⟨lv, rfl, rfl⟩ := s5
      refine el_gen (in_enum (xs := items) (er_var rfl rc (c4.trans e5))) (g_two (m := 4) (n := 9) (by decide) (fun _ _ _ _ _ r => r) (fun _ _ _ _ e r => r.mono e)) (fun z σ2 H6 hz e6 s6 => ?_) (fun z σ2 H6 hz hp e6 s6 => ?_) (by rw [List.length_zip, List.length_range]; omega)
      · obtain ⟨u1, u2, rfl, rfl, ru2⟩ := s6
        exact et_test (er_inIT (xs := z.2.2) (er_vint rfl) (er_ix1 (x := z.2) (er_var rfl ru2 (Ex.refl _))))
      · obtain ⟨u1, u2, rfl, rfl, ru2⟩ := s6
        exact er_vint rfl
    · have hx5 := e5 _ _ (upd_same (H := H4) (a := x) (o := .ins a.C_Rules dx (putF "rules" (.ref pr) (putF "size" (.int n) []))))
      have o5' := own_updI (o' := .ins a.C_Rules dx (putF "on_letter" (.ref po) (putF "rules" (.ref pr) (putF "size" (.int n) [])))) (o4'.mono e5) hx5
      refine q _ (ex_cut (ex_mut (c4.trans e5) cut_same) cut_same) ⟨dx, pr, po, upd_same, o5'⟩
end
set_option Elab.async false
set_option linter.all false
set_option maxRecDepth 100000
set_option maxHeartbeats 400000
set_option autoImplicit false
open PySem L2 Z
open Evl (Ex)
def brk (s : List Int) : List Ru → Nat → Int
  | [], _ => -1
  | r :: rs, i => if keepsR s r = true then brk s rs (i + 1) else i
theorem brk_none {s : List Int} : ∀ {rs : List Ru} {i : Nat}, brk s rs i = -1 ↔ keeps s rs = true
  | [], i => ⟨fun _ => rfl, fun _ => rfl⟩
  | r :: rs, i => by
    have e : keeps s (r :: rs) = (keepsR s r && keeps s rs) := rfl
    unfold brk
    rw [e]
    cases h : keepsR s r with
    | true => simpa using brk_none (rs := rs) (i := i + 1)
    | false =>
      rw [if_neg Bool.false_ne_true]
      simp
theorem brk_at {s : List Int} : ∀ {rs : List Ru} {i j : Nat} {r : Ru}, (∀ x, x ∈ rs.take j → keepsR s x = true) → rs[j]? = some r → keepsR s r = false → brk s rs i = ((i + j : Nat) : Int)
  | [], i, j, r, _, h, _ => by simp at h
  | x :: rs, i, 0, r, _, h, k => by
    simp at h
    subst h
    unfold brk
    rw [if_neg (by rw [k]; decide)]
    rfl
  | x :: rs, i, j + 1, r, h0, h, k => by
    unfold brk
    rw [if_pos (h0 x (by simp)), brk_at (rs := rs) (i := i + 1) (j := j) (fun y hy => h0 y (by rw [List.take_succ_cons]; exact List.mem_cons_of_mem _ hy)) (by simpa using h) k]
    congr 1
    omega
/-- an instance of Rules that the law's rules describe -/
structure WAt (K : PySem.W.Frag) (C C2 : Addr) (H : Hp) (w : Addr) (n : Nat) (rs : List Ru) : Prop where
  ex : ∃ (items : List Itm) (ks : List (Str × Ru)), RulesAt K C H w n items ∧ ItemsAt K C2 H items ks ∧ ks.map (·.2) = rs
  rin : RulesIn rs n
  le : rs.length ≤ 1000
theorem WAt.mono {K : PySem.W.Frag} {C C2 : Addr} {G H : Hp} {w : Addr} {n : Nat} {rs : List Ru} (e : Ex G H) (h : WAt K C C2 G w n rs) : WAt K C C2 H w n rs := by
  obtain ⟨items, ks, h1, h2, h3⟩ := h.ex
  exact ⟨⟨items, ks, h1.mono e, h2.mono e, h3⟩, h.rin, h.le⟩
section
variable {K : PySem.W.Frag} {H : Hp} {σ : L2.St} {te ta tb : TE}
theorem ER.evO {x : Ob} (h : ER K te σ H x) : EV K te σ H (.ref x.a) := fun H1 e Q q => h H1 e Q fun v H2 e2 r => by rw [(Rep.obj r)]; exact q H2 e2
theorem er_notInK {C k : Addr} {E : XK} {G : Hp} {nm : Str} {wd : Nat} {ts : List (Tp Int)} {t : Tp Int} (h : ER K ta σ H t) (h2 : EV K tb σ H (.ref k)) (at_ : KindAt K C G k nm wd ts) (e : Ex G H) : ER K (tOp (rOwnIn C (spCont K C) E true) ta tb) σ H (!decide (t ∈ ts)) := fun H1 e1 Q q =>
  h H1 e1 _ fun v H2 e2 r => h2 H2 (e1.trans e2) _ fun H3 e3 => by
    have at3 := at_.mono (e.trans (e1.trans (e2.trans e3)))
    obtain ⟨dx, pt, d, kvs, h1, _⟩ := id at3
    refine ⟨k, dx, _, rfl, h1, k, v, nm, wd, ts, t, rfl, at3, r.mono e3, fun u H4 e4 ru => ⟨_, Rep.bool ru, q _ H4 (e2.trans (e3.trans e4)) (rep_bool _)⟩⟩
end
section
variable {P : Program} {w : World} {K : PySem.W.Frag} {mg : Str → Option Value} {base : Heap} {a : Ad}
theorem er_size (T : Txt P K mg a) {G H : Hp} {σ : L2.St} {te : TE} {w : Addr} {n : Nat} {items : List Itm} (h : EV K te σ H (.ref w)) (at_ : RulesAt K a.C_Rules G w n items) (e : Ex G H) : ER K (tFld K te "size") σ H (n : Int) ∧ ER K (tFld K te "rules") σ H items := by
  obtain ⟨dx, pr, po, h1, h2⟩ := at_
  exact ⟨(ev_fld h h1 e T.cl_Rules T.na_Rules_size rfl).er (rep_int _), (em_fld h h1 e T.cl_Rules T.na_Rules_rules rfl h2).er⟩
def spAtR (K : PySem.W.Frag) (C : Addr) : Sp := fun vs H Q _ => ∃ (w : Addr) (n i : Nat) (items : List Itm) (v : V) (s : Tp Int) (it : Itm), vs = [.ref w, .int i, v] ∧ RulesAt K C H w n items ∧ Rep K H v s ∧ items[i]? = some it ∧ In (L it.2) (L s).length ∧ (L it.2).length ≤ 1000 ∧ ∀ v H', Ex H H' → Rep K H' v (show Tp Int from vals (L s) (L it.2)) → Q v H'
theorem ok_Rules_at_rule (T : Txt P K mg a) : FnOk P w K mg base CX0 1 a.f_Rules_at_rule a.d_Rules_at_rule ["self", "index", "setting"] (spAtR K a.C_Rules) := by
  refine T.F_Rules_at_rule.ok sc_Rules_at_rule (fun vs H Q E (h : spAtR K a.C_Rules vs H Q E) => by obtain ⟨w, n, i, items, v, s, it, rfl, _⟩ := h; rfl) (fun cdv A outer s H vs Q E hr h => ⟨_, (pss_one (ps_ret (pe_callTy (k_call_tuple_of (K := K) rfl) (by rfl) T.z_tuple (by decide +kernel) (pa_cons (pe_lc (own := [("letter", 3)]) rfl sc_Rules_at_rule.nd (k_pi_tup (K := K) rfl (pe_ix (k_ix_tup (K := K) rfl) (pe_ix (k_ix_list (K := K) rfl) (k_pe_fld (K := K) rfl (pe_fld (pv 0) (by rfl))) (pv 1) (fun _ _ => rfl)) pe_int (fun _ _ => rfl))) (blkOk_by (own := [("letter", 3)]) (N := N_Rules_at_rule) (sc := defScope s_Rules_at_rule) (by decide +kernel)) (fun _ _ _ _ _ => (pg_name (i := 3) sc_Rules_at_rule.nd rfl (Or.inl rfl))) (fun _ _ _ _ _ => pts_nil) (fun _ _ _ _ _ => (pe_ix (k_ix_tup (K := K) rfl) (pv 2) (pv 3) (fun _ _ => rfl)))) pa_nil)))), ?_⟩)
  obtain ⟨w, n, i, items, v, s, it, rfl, at_, r, hi, h1, h2, q⟩ := h
  refine s_ret (K := K) (x := (show Tp Int from vals (L s) (L it.2))) (er_tuple (EL.er (el_genA (xs := L it.2) (f := fun l => (L s).getD l.toNat 0) (in_tup (er_ix1 (x := it) (er_ixL (xs := items) (er_size T (ev_var (i := 0) rfl) at_ (Ex.refl _)).2 (er_vint rfl) (Z.atI_ofN hi)))) (g_name (i := 3) gr_rep) (fun z σ2 H2 hz e2 s2 => ?_) (by omega)))) q
  obtain ⟨b, rfl, rb⟩ := s2
  obtain rfl := Rep.int rb
  exact er_ixT (xs := s) (er_var rfl r e2) (er_vint rfl) (In.at h1 hz)
def spBrk (K : PySem.W.Frag) (C C2 : Addr) : Sp := fun vs H Q _ => ∃ (w : Addr) (n : Nat) (rs : List Ru) (v : V) (s : Tp Int), vs = [.ref w, v] ∧ WAt K C C2 H w n rs ∧ Rep K H v s ∧ (L s).length = n ∧ ∀ H', Ex H H' → Q (.int (brk (L s) rs 0)) H'
theorem ok_Rules_broken (T : Txt P K mg a) : FnOk P w K mg base CX0 2 a.f_Rules_broken a.d_Rules_broken ["self", "setting"] (spBrk K a.C_Rules a.C_Kind) := by
  refine T.F_Rules_broken.ok sc_Rules_broken (fun vs H Q E (h : spBrk K a.C_Rules a.C_Kind vs H Q E) => by obtain ⟨w, n, rs, v, s, rfl, _⟩ := h; rfl) (fun cdv A outer s H vs Q E hr h => ⟨_, (pss_cons (ps_for PassesOwn.never rfl (k_pi_enum (K := K) rfl (pi_enum (by rfl) T.z_enumerate (pa_cons (k_pe_fld (K := K) rfl (pe_fld (pv 0) (by rfl))) pa_nil))) (k_pg_tup (K := K) rfl (pg_tup (n := 2) (by rfl) (pgs_cons (pg_name (i := 2) sc_Rules_broken.nd rfl (Or.inl rfl)) (pgs_cons (pg_name (i := 3) sc_Rules_broken.nd rfl (Or.inl rfl)) pgs_nil))))
  (pss_one (ps_if (pt_cmpR (op_ownNotIn T.me_Kind___contains__.at_ T.me_Kind___contains__.fn (ok_Kindw_containsw T) (hr.mono (by decide)) T.b_Kindw_containsw pass0) (pe_meth (pv 0) T.cl_Rules T.me_Rules_at_rule (ok_Rules_at_rule T) (hr.mono (by decide)) T.b_Rules_at_rule .nil pass0 (pa_cons (pv 2) (pa_cons (pv 1) pa_nil))) (pe_ix (k_ix_tup (K := K) rfl) (pv 3) pe_int (fun _ _ => rfl)) (by with_unfolding_all rfl))
  (pss_one (ps_ret (pv 2)))
  pss_nil)))
  (pss_one (ps_ret (pe_un un_neg pe_int)))), ?_⟩)
  obtain ⟨w, n, rs, v, s, rfl, W, r, hsl, q⟩ := h
  obtain ⟨items, ks, at_, kat, hks⟩ := W.ex
  have hrk : ∀ (i : Nat) (k : Str × Ru), ks[i]? = some k → rs[i]? = some k.2 := fun i k hk => by rw [← hks, List.getElem?_map, hk]; rfl
  have hlen : items.length = rs.length := by rw [kat.len, ← hks, List.length_map]
  refine q_enum (K := K) (xs := items) (er_size T (ev_var (i := 0) rfl) at_ (Ex.refl _)).2 fun l vs H1 e1 sq rp => ⟨H1, fun i σ' H' => (∃ o2 o3, σ' = [some (.ref w), some v, o2, o3]) ∧ ∀ x, x ∈ rs.take i → keepsR (L s) x = true, Ex.refl _, sq, rp, ⟨⟨_, _, rfl⟩, fun x hx => absurd hx (by rw [List.take_zero]; exact List.not_mem_nil)⟩, ?_, ?_⟩
  · rintro i it w' σ' H2 H3 hi e2 e3 rt ⟨⟨o2, o3, rfl⟩, hk⟩
    obtain ⟨k, hki, hkl, kd⟩ := kat.get hi
    have hri := hrk i k hki
    have hin := W.rin _ (List.mem_of_getElem? hri)
    have e03 := e1.trans (e2.trans e3)
    rw [← hkl] at hin
    have val : ∀ {E : XK}, ER K (tMeth a.C_Rules "at_rule" (spAtR K a.C_Rules) [] E (tVar 0) (tCons (tVar 2) (tCons (tVar 1) tNil))) [some (.ref w), some v, some (.int (i : Nat)), some w'] H3 (show Tp Int from vals (L s) (L it.2)) := fun {E} H4 e4 Q q => by
      obtain ⟨dx, pr, po, h1, h2⟩ := at_.mono (e03.trans e4)
      exact ⟨_, rfl, w, dx, _, rfl, h1, rfl, _, rfl, _, rfl, w, n, i, items, v, s, it, rfl, ⟨dx, pr, po, h1, h2⟩, r.mono (e03.trans e4), hi, by rw [hsl]; exact hin.1, hin.2, fun v H5 e5 r5 => q v H5 e5 r5⟩
    refine s_if (K := K) (b := !decide ((show Tp Int from vals (L s) (L it.2)) ∈ k.2.2)) (et_test (er_notInK val (ER.evO (er_ix0 (x := it) (er_var rfl (rt.mono (e2.trans e3)) (Ex.refl _)))) kd e03)) (fun hb H4 e4 => ?_) (fun hb H4 e4 => ?_)
    · refine (er_vint (i := 2) (K := K) rfl).evI H4 (Ex.refl _) _ fun H5 e5 => ?_
      have := brk_at (i := 0) hk hri (by unfold keepsR; rw [← hkl]; simpa using hb)
      rw [Nat.zero_add] at this
      rw [← this]
      exact q H5 (e03.trans (e4.trans e5))
    · refine ⟨e2.trans (e3.trans e4), ⟨_, _, rfl⟩, fun x hx => ?_⟩
      rw [take_succ_get hri] at hx
      rcases List.mem_append.mp hx with hx | hx
      · exact hk x hx
      · rw [List.mem_singleton.mp hx]
        unfold keepsR
        rw [← hkl]
        simpa using hb
  · rintro σ' H2 e2 ⟨⟨o2, o3, rfl⟩, hk⟩
    refine (er_neg (K := K) (er_int (n := 1))).evI H2 (Ex.refl _) _ fun H5 e5 => ?_
    have : brk (L s) rs 0 = -1 := brk_none.mpr (List.all_eq_true.mpr fun x hx => hk x (by rw [hlen, List.take_length]; exact hx))
    rw [← this]
    exact q H5 (e1.trans (e2.trans e5))
def spIsAns (K : PySem.W.Frag) (C C2 : Addr) : Sp := fun vs H Q _ => ∃ (w : Addr) (n : Nat) (rs : List Ru) (v : V) (s : Tp Int), vs = [.ref w, v] ∧ WAt K C C2 H w n rs ∧ Rep K H v s ∧ (L s).length ≤ 1000 ∧ ∀ H', Ex H H' → Q (.bl (ans n rs (L s))) H'
theorem ok_Rules_is_answer (T : Txt P K mg a) : FnOk P w K mg base CX0 3 a.f_Rules_is_answer a.d_Rules_is_answer ["self", "setting"] (spIsAns K a.C_Rules a.C_Kind) := by
  refine T.F_Rules_is_answer.ok sc_Rules_is_answer (fun vs H Q E (h : spIsAns K a.C_Rules a.C_Kind vs H Q E) => by obtain ⟨w, n, rs, v, s, rfl, _⟩ := h; rfl) (fun cdv A outer s H vs Q E hr h => ⟨_, (pss_one (ps_ret (pe_and (pe_call (ok_is_binary T) (hr.mono (by decide)) (by rfl) T.m_is_binary T.F_is_binary.kp T.b_is_binary .nil pass0 (pa_cons (pv 1) (pa_cons (k_pe_fld (K := K) rfl (pe_fld (pv 0) (by rfl))) pa_nil))) (pe_one (pe_cmpR op_eq (pe_meth (pv 0) T.cl_Rules T.me_Rules_broken (ok_Rules_broken T) (hr.mono (by decide)) T.b_Rules_broken .nil pass0 (pa_cons (pv 1) pa_nil)) (pe_un un_neg pe_int) (nomark _)))))), ?_⟩)
  obtain ⟨w, n, rs, v, s, rfl, W, r, hsl, q⟩ := h
  obtain ⟨items, ks, at_, kat, hks⟩ := W.ex
  refine s_ret (K := K) (x := ans n rs (L s)) (ER.is (er_andV (er_c2 (x := s) (y := (n : Int)) (er_var rfl r (Ex.refl _)) (er_size T (ev_var (i := 0) rfl) at_ (Ex.refl _)).1 (by show List.length s ≤ 100000; have : List.length s ≤ 1000 := hsl; omega)) fun hb => er_eqI (i := brk (L s) rs 0) (j := -1) ?_ (er_neg er_int)) ?_) fun u H' e r => by rw [(Rep.bool r)]; exact q H' e
  · intro H1 e1 Q q
    have hb' := isB_iff.mp hb
    obtain ⟨dx, pr, po, h1, h2⟩ := at_.mono e1
    exact ⟨_, rfl, w, dx, _, rfl, h1, rfl, _, rfl, w, n, rs, v, s, rfl, W.mono e1, r.mono e1, by have z : ((L s).length : Int) = n := hb'.1; omega, fun H2 e2 => q _ H2 e2 (rep_int _)⟩
  · show (isB s n && decide (brk (L s) rs 0 = -1)) = (isB (L s) n && keeps (L s) rs)
    congr 1
    rw [Bool.eq_iff_iff, decide_eq_true_eq]
    exact brk_none
theorem er_ans {C C2 : Addr} {E : XK} {G H : Hp} {te tu : TE} {σ : L2.St} {w : Addr} {n : Nat} {rs : List Ru} {s : List Int} (h : EV K te σ H (.ref w)) (W : WAt K C C2 G w n rs) (e : Ex G H) (hu : ER K tu σ H (show Tp Int from s)) (hs : s.length ≤ 1000) :
    ER K (tMeth C "is_answer" (spIsAns K C C2) [] E te (tCons tu tNil)) σ H (ans n rs s) := fun H1 e1 Q q => h H1 e1 _ fun H2 e2 => by
  obtain ⟨items, ks, at_, kat, hks⟩ := W.ex
  obtain ⟨dx, pr, po, h1, h2⟩ := at_.mono (e.trans (e1.trans e2))
  exact ⟨w, dx, _, rfl, h1, rfl, hu H2 (e1.trans e2) _ fun v H3 e3 rv => ⟨w, n, rs, v, s, rfl, W.mono (e.trans (e1.trans (e2.trans e3))), rv, hs, fun H4 e4 => q _ H4 (e2.trans (e3.trans e4)) (rep_bool _)⟩⟩
end
set_option Elab.async false
set_option linter.all false
set_option maxRecDepth 100000
set_option maxHeartbeats 400000
set_option autoImplicit false
open PySem L2 Z
open Evl (Ex)
section
variable {P : Program} {w : World} {K : PySem.W.Frag} {mg : Str → Option Value} {base : Heap} {a : Ad}
def spCheck (K : PySem.W.Frag) (C C2 N : Addr) : Sp := fun vs H Q E => ∃ (w : Addr) (n : Nat) (rs : List Ru) (v : V) (s : Tp Int), vs = [.ref w, v] ∧ WAt K C C2 H w n rs ∧ Rep K H v s ∧ (L s).length ≤ 1000 ∧
  (ans n rs (L s) = true → ∀ H', Ex H H' → Q .non H') ∧ (ans n rs (L s) = false → ∀ u d H', Ex H H' → Rep K H' u s → H' d = some (.xd [("setting", u)]) → E (.ref N) (some d) H')
theorem ok_check_answer (T : Txt P K mg a) : FnOk P w K mg base (L2.CX P w) 4 a.f_check_answer a.d_check_answer ["world", "setting"] (spCheck K a.C_Rules a.C_Kind a.C_NotAnAnswer) := by
  refine T.F_check_answer.okX sc_check_answer (fun vs H Q E (h : spCheck K a.C_Rules a.C_Kind a.C_NotAnAnswer vs H Q E) => by obtain ⟨w, n, rs, v, s, rfl, _⟩ := h; rfl) (fun cdv A outer s H vs Q E hr h => ⟨_, (pss_one (ps_if (pt_not (pt_val (pe_meth (pv 0) T.cl_Rules T.me_Rules_is_answer (ok_Rules_is_answer T) (hr.mono (by decide)) T.b_Rules_is_answer .nil pass0 (pa_cons (pv 1) pa_nil))))
  (pss_one (ps_raise rfl (takes_of rfl rfl rfl rfl) (pmk_oex T.S_NotAnAnswerw_initw.T T.i_NotAnAnswerw_initw T.ti_NotAnAnswerw_initw (ok_NotAnAnswerw_initw T) (hr.mono (by decide)) T.b_NotAnAnswerw_initw .nil pass0 (by rfl) T.m_NotAnAnswer (pa_cons (pv 1) pa_nil))))
  pss_nil)), ?_⟩)
  obtain ⟨w, n, rs, v, s, rfl, W, r, hsl, qt, qf⟩ := h
  refine s_if (K := K) (b := !ans n rs (L s)) (et_not (et_test (er_ans (ev_var rfl) W (Ex.refl _) (er_var rfl r (Ex.refl _)) hsl))) (fun hb H1 e1 => ?_) (fun hb H1 e1 => qt (by simpa using hb) H1 e1)
  exact mk_X1R (K := K) (x := s) (er_var rfl r e1) fun u d H2 _ e2 ru hd => qf (by simpa using hb) u d H2 (e1.trans e2) ru hd
def spAny (K : PySem.W.Frag) (C C2 N M : Addr) : Sp := fun vs H Q E => ∃ (w : Addr) (n : Nat) (rs : List Ru) (v u : V) (s : Tp Int) (ls : List Int), vs = [.ref w, v, u] ∧ WAt K C C2 H w n rs ∧ Rep K H v s ∧ Rep K H u ls ∧ (L s).length ≤ 1000 ∧ In ls n ∧ ls.length ≤ 1000 ∧
  (ans n rs (L s) = true → ls.length ≤ 8 → ∀ H', Ex H H' → Q (.bl (anyO n rs (L s) ls)) H') ∧
  (ans n rs (L s) = true → 8 < ls.length → ∀ d H', Ex H H' → H' d = some (.xd [("limit", .int 8)]) → E (.ref M) (some d) H') ∧
  (ans n rs (L s) = false → ∀ u d H', Ex H H' → Rep K H' u s → H' d = some (.xd [("setting", u)]) → E (.ref N) (some d) H')
theorem ok_any_order (T : Txt P K mg a) : FnOk P w K mg base (L2.CX P w) 5 a.f_any_order a.d_any_order ["rules", "setting", "letters"] (spAny K a.C_Rules a.C_Kind a.C_NotAnAnswer a.C_TooMany) := by
  refine T.F_any_order.okX sc_any_order (fun vs H Q E (h : spAny K a.C_Rules a.C_Kind a.C_NotAnAnswer a.C_TooMany vs H Q E) => by obtain ⟨w, n, rs, v, u, s, ls, rfl, _⟩ := h; rfl) (fun cdv A outer s H vs Q E hr h => ⟨_, (pss_cons (ps_expr (pe_call (ok_check_answer T) (hr.mono (by decide)) (by rfl) T.m_check_answer T.F_check_answer.kp T.b_check_answer .nil (passes_call (takes_of rfl rfl rfl rfl) (fun _ _ _ _ h => h)) (pa_cons (pv 0) (pa_cons (pv 1) pa_nil))))
  (pss_cons (ps_if (pt_cmpR op_gt (pe_callB (k_call_len_seq (K := K) rfl) (by rfl) T.z_len (by decide +kernel) (pa_cons (pv 2) pa_nil)) (pe_glob (v := .int 8) (by rfl) T.m_MOST_AT_ONCE.choose_spec ⟨_, rfl⟩) (nomark _))
  (pss_one (ps_raise rfl (takes_of rfl rfl rfl rfl) (pmk_oex T.S_TooManyw_initw.T T.i_TooManyw_initw T.ti_TooManyw_initw (ok_TooManyw_initw T) (hr.mono (by decide)) T.b_TooManyw_initw .nil pass0 (by rfl) T.m_TooMany (pa_cons (pe_glob (v := .int 8) (by rfl) T.m_MOST_AT_ONCE.choose_spec ⟨_, rfl⟩) pa_nil))))
  pss_nil)
  (pss_cons (ps_for (passes_of rfl) rfl (k_pi_list (K := K) rfl (pe_call (ok_all_binary T) (hr.mono (by decide)) (by rfl) T.m_all_binary T.F_all_binary.kp T.b_all_binary .nil pass0 (pa_cons (pe_callB (k_call_len_seq (K := K) rfl) (by rfl) T.z_len (by decide +kernel) (pa_cons (pv 2) pa_nil)) pa_nil))) (pg_name (i := 3) sc_any_order.nd rfl (Or.inl rfl))
  (pss_cons (ps_setLc (i := 4) (own := [("letter", 5), ("choice", 6)]) rfl sc_any_order.nd rfl rfl (sw_true rfl rfl rfl (by decide +kernel)) (k_pi_zipM (K := K) rfl (pi_zipM (by rfl) T.z_zip (pa_cons (pv 2) (pa_cons (pv 3) pa_nil)))) (blkOk_by (own := [("letter", 5), ("choice", 6)]) (N := N_any_order) (sc := defScope s_any_order) (by decide +kernel)) (fun _ _ _ _ _ => (k_pg_tup (K := K) rfl (pg_tup (n := 2) (by rfl) (pgs_cons (pg_name (i := 5) sc_any_order.nd rfl (Or.inl rfl)) (pgs_cons (pg_name (i := 6) sc_any_order.nd rfl (Or.inl rfl)) pgs_nil))))) (fun _ _ _ _ _ => (pts_one (pt_cmpR op_eq (pv 6) pe_int (nomark _)))) (fun _ _ _ _ _ => (pv 5)))
  (pss_one (ps_if (pt_not (pt_val (pe_meth (pv 0) T.cl_Rules T.me_Rules_is_answer (ok_Rules_is_answer T) (hr.mono (by decide)) T.b_Rules_is_answer .nil pass0 (pa_cons (pe_call (ok_flipped T) (hr.mono (by decide)) (by rfl) T.m_flipped T.F_flipped.kp T.b_flipped .nil pass0 (pa_cons (pv 1) (pa_cons (pv 4) pa_nil))) pa_nil))))
  (pss_one (ps_ret pe_bl))
  pss_nil))))
  (pss_one (ps_ret pe_bl))))), ?_⟩)
  obtain ⟨w, n, rs, v, u, s, ls, rfl, W, r1, r2, hsl, hin, hll, q, qm, qn⟩ := h
  refine q_drop ⟨_, rfl, _, rfl, w, n, rs, v, s, rfl, W, r1, hsl, fun hans H1 e1 => ?_, qn⟩
  have hb := isB_iff.mp (show isB (L s) n = true by
    unfold ans at hans
    rw [Bool.and_eq_true] at hans
    exact hans.1)
  have hsn : (L s).length = n := by have := hb.1; omega
  refine q_if (K := K) (b := decide ((8 : Int) < ls.length)) (et_test (er_gt (ed_lenL (er_var rfl r2 e1)) er_int)) (fun hc H2 e2 => ?_) (fun hc H2 e2 => ?_)
  · have hc : (8 : Int) < ls.length := of_decide_eq_true hc
    exact mk_X1R (K := K) (x := (8 : Int)) er_int fun u d H3 _ e3 ru hd => qm hans (by omega) d H3 (e1.trans (e2.trans e3)) (by rw [Rep.int ru] at hd; exact hd)
  · have hc : ¬ (8 : Int) < ls.length := of_decide_eq_false hc
    have e02 := e1.trans e2
    refine q_forL (K := K) (xs := (show List (Tp Int) from allB ls.length)) (EL.is (el_c1 (x := (ls.length : Int)) (ed_lenL (er_var rfl r2 e02)) ⟨by omega, by omega⟩) (by rw [Int.toNat_natCast])) fun p3 H3 hp3 e3 o3 =>
      ⟨H3, fun i σ' H' => (∃ o3 o4, σ' = [some (.ref w), some v, some u, o3, o4, none, none]) ∧ ∀ c, c ∈ (allB ls.length).take i → ans n rs (flipL (L s) (pick ls c)) = true, Ex.refl _, o3, ⟨⟨_, _, rfl⟩, fun c hc => absurd hc (by rw [List.take_zero]; exact List.not_mem_nil)⟩, ?_, ?_⟩
    · rintro i c w' σ' H4 hi e4 rc ⟨⟨o3, o4, rfl⟩, hk⟩
      have e04 := e02.trans (e3.trans e4)
      have hcl := mem_allB.mp (List.mem_of_getElem? hi)
      refine q_setL (K := K) (xs := pick ls (L c)) ?_ fun p5 H5 hp5 e5 o5 => ?_
      · refine EL.is (el_gen (β := Int) (xs := ls.zip (L c)) (p := fun x => decide (x.2 = 1)) (f := fun x => x.1) (in_zipM (xs := ls) (ys := c) (er_var rfl r2 e04) (er_var rfl rc e4)) (g_two (m := 5) (n := 6) (by decide) (fun _ _ _ _ e r => r.mono e) (fun _ _ _ _ e r => r.mono e)) (fun z σ2 H6 hz e6 s6 => ?_) (fun z σ2 H6 hz hp e6 s6 => ?_) (by rw [List.length_zip]; omega)) rfl
        · obtain ⟨u1, u2, rfl, ru1, ru2⟩ := s6
          exact et_test (er_eqI (er_var rfl ru2 (Ex.refl _)) er_int)
        · obtain ⟨u1, u2, rfl, ru1, ru2⟩ := s6
          exact er_var rfl ru1 (Ex.refl _)
      · refine s_if (K := K) (b := !ans n rs (flipL (L s) (pick ls (L c)))) (et_not (et_test (er_ans (ev_var rfl) W (e04.trans e5) (er_c2 (x := s) (y := pick ls (L c)) (er_var rfl r1 (e04.trans e5)) (er_own rfl o5 (Ex.refl _)) ⟨by show (L s).length ≤ 100000; omega, fun p hp => by
          have := hin p (pick_sub hp)
          rw [← hsn] at this
          exact this⟩) (by rw [flipL_len]; exact hsl)))) (fun hb2 H6 e6 => ?_) (fun hb2 H6 e6 => ?_)
        · refine (er_bl (K := K) (n := false)).evB H6 (Ex.refl _) _ fun H7 e7 => ?_
          have : anyO n rs (L s) ls = false := by
            unfold anyO
            rw [List.all_eq_false]
            exact ⟨L c, List.mem_of_getElem? hi, by simpa using hb2⟩
          rw [← this]
          exact q hans (by omega) H7 (e04.trans (e5.trans (e6.trans e7)))
        · refine ⟨e4.trans (e5.trans e6), ⟨_, _, rfl⟩, fun c' hc' => ?_⟩
          rw [take_succ_get (x := L c) hi] at hc'
          rcases List.mem_append.mp hc' with hc' | hc'
          · exact hk c' hc'
          · rw [List.mem_singleton.mp hc']
            simpa using hb2
    · rintro σ' H4 e4 ⟨⟨o3, o4, rfl⟩, hk⟩
      refine (er_bl (K := K) (n := true)).evB H4 (Ex.refl _) _ fun H7 e7 => ?_
      have : anyO n rs (L s) ls = true := by
        unfold anyO
        rw [List.all_eq_true]
        intro c hc
        exact hk c ((List.take_of_length_le (l := allB ls.length) (Nat.le_refl _)).symm ▸ hc)
      rw [← this]
      exact q hans (by omega) H7 (e02.trans (e3.trans (e4.trans e7)))
end
set_option Elab.async false
set_option linter.all false
set_option maxRecDepth 100000
set_option maxHeartbeats 400000
set_option autoImplicit false
open PySem L2 Z
open Evl (Ex)
theorem tup2 {ta tb : TE} {σ : L2.St} {H : Hp} {Q : VK} (h : ta σ H fun v H1 => tb σ H1 fun w H2 => [v, w].length ≤ sizeLine ∧ ∀ l, H2 l = none → Q (.ref l) (L2.upd H2 l (.tup [v, w]))) : tTup (tCons ta (tCons tb tNil)) σ H Q := h
theorem fst_zip {α β : Type} : ∀ (xs : List α) (ys : List β), (xs.zip ys).map (·.1) = xs.take ys.length
  | [], ys => by simp
  | x :: xs, [] => by simp
  | x :: xs, y :: ys => by simp [fst_zip xs ys]
def nmOf (k : Nat) : Str := ⟨#[97 + k]⟩
def nms : List Str := (List.range 12).map nmOf
def abl : Str := "abcdefghijkl"
theorem abl_len : abl.length ≤ sizeLine := by
  rw [sizeLine_eq]
  decide +kernel
theorem abl_at : ∀ k : Nat, k < 12 → atI abl.cps.toList (k : Int) = some (97 + k) := by decide +kernel
theorem abc_in : ∀ k : Nat, k < 12 → 97 + k ∈ abc.cps.toList := by decide +kernel
theorem nms_nd : nms.Nodup := by decide +kernel
theorem nms_at {k : Nat} (h : k < 12) : nms[k]? = some (nmOf k) := by
  unfold nms
  rw [List.getElem?_map, List.getElem?_range h]
  rfl
/-- a rule as the law makes it -/
structure Fine (n : Nat) (r : Ru) : Prop where
  ls : Letters (L r.1) n
  l1 : 1 ≤ (L r.1).length
  l4 : (L r.1).length ≤ 4
  nd : List.Nodup (α := List Int) r.2
  len : r.2.length ≤ 16
  bin : ∀ t : Tp Int, t ∈ r.2 → (L t).length = (L r.1).length ∧ binL (L t) = true
theorem GoodR.fine {n : Nat} {s : List Int} {r : Ru} (h : GoodR n s r) : Fine n r := ⟨h.ls, h.l1, h.l4, h.nd, h.len, h.bin⟩
section
variable {P : Program} {w : World} {K : PySem.W.Frag} {mg : Str → Option Value} {base : Heap} {a : Ad}
def spLWorld (K : PySem.W.Frag) (C C2 : Addr) : Sp := fun vs H Q _ => ∃ (n : Nat) (v : V) (rs : List Ru), vs = [.int n, v] ∧ Rep K H v rs ∧ n ≤ 14 ∧ rs.length ≤ 12 ∧ (∀ r, r ∈ rs → Fine n r) ∧ ∀ w H', H w = none → Ex H H' → WAt K C C2 H' w n rs → Q (.ref w) H'
theorem ok_law_world (T : Txt P K mg a) : FnOk P w K mg base CX0 6 a.f_law_world a.d_law_world ["size", "rules"] (spLWorld K a.C_Rules a.C_Kind) := by
  refine T.F_law_world.ok sc_law_world (fun vs H Q E (h : spLWorld K a.C_Rules a.C_Kind vs H Q E) => by obtain ⟨n, v, rs, rfl, _⟩ := h; rfl) (fun cdv A outer s H vs Q E hr h => ⟨_, (pss_cons (ps_set (i := 2) sc_law_world.nd rfl (Or.inl rfl) pe_str)
  (pss_cons (ps_set (i := 3) sc_law_world.nd rfl (Or.inl rfl) (pe_lst pa_nil))
  (pss_cons (ps_for PassesOwn.never rfl (pi_range1 (by rfl) T.z_range (pa_cons (pe_callB (k_call_len_seq (K := K) rfl) (by rfl) T.z_len (by decide +kernel) (pa_cons (pv 1) pa_nil)) pa_nil)) (pg_name (i := 4) sc_law_world.nd rfl (Or.inl rfl))
  (pss_one (ps_expr (k_pe_bm (K := K) rfl (pe_bm PySem.F.plainAttrs_list PySem.F.slot_list_append PySem.F.type_list_append mt_append (pv 3) (pa_cons (pe_tup (pa_cons (pe_make T.mk_Kind (ok_Kindw_initw T) (hr.mono (by decide)) (by rfl) T.m_Kind T.b_Kindw_initw .nil passN (pa_cons (pe_ix ix_str (pv 2) (pv 4) (fun _ _ => rfl)) (pa_cons (pe_callB (k_call_len_seq (K := K) rfl) (by rfl) T.z_len (by decide +kernel) (pa_cons (pe_ix (k_ix_tup (K := K) rfl) (pe_ix (k_ix_list (K := K) rfl) (pv 1) (pv 4) (fun _ _ => rfl)) pe_int (fun _ _ => rfl)) pa_nil)) (pa_cons (pe_callTy (k_call_list_of (K := K) rfl) (by rfl) T.z_list (by decide +kernel) (pa_cons (pe_ix (k_ix_tup (K := K) rfl) (pe_ix (k_ix_list (K := K) rfl) (pv 1) (pv 4) (fun _ _ => rfl)) pe_int (fun _ _ => rfl)) pa_nil)) pa_nil)))) (pa_cons (pe_ix (k_ix_tup (K := K) rfl) (pe_ix (k_ix_list (K := K) rfl) (pv 1) (pv 4) (fun _ _ => rfl)) pe_int (fun _ _ => rfl)) pa_nil))) pa_nil))))))
  (pss_one (ps_ret (pe_make T.mk_Rules (ok_Rulesw_initw T) (hr.mono (by decide)) (by rfl) T.m_Rules T.b_Rulesw_initw .nil passN (pa_cons (pv 0) (pa_cons (pv 3) pa_nil)))))))), ?_⟩)
  obtain ⟨n, v, rs, rfl, r1, hn, hl, hf, q⟩ := h
  obtain ⟨al, hal, allen, alat⟩ : ∃ al : Str, abl = al ∧ al.length ≤ sizeLine ∧ ∀ k : Nat, k < 12 → atI al.cps.toList (k : Int) = some (97 + k) := ⟨abl, rfl, abl_len, abl_at⟩
  refine q_setV (K := K) (v := .str al) (hal ▸ ev_c) fun H1 e1 => ?_
  refine q_setL (K := K) (α := Itm) (xs := []) (el_lst ea_nil) fun p H2 hp e2 o2 => ?_
  have hpH : H p = none := fresh_back e1 hp
  refine q_rng (K := K) (n := (rs.length : Int)) (ed_lenL (er_var rfl r1 (e1.trans e2))) (by omega) (by omega) fun H3 e3 => ⟨H, fun i σ' H' => ∃ (o4 : Option V) (items : List Itm), σ' = [some (.int n), some v, some (.str al), some (.ref p), o4] ∧ Z.Own K H' p items ∧ ItemsAt K a.C_Kind (Z.cut H' p) items ((nms.zip rs).take i),
    e1.trans (e2.trans e3), ⟨_, [], rfl, o2.mono e3, ⟨by rw [List.take_zero]; rfl, fun i it k h => by simp at h⟩⟩, ?_, ?_⟩
  · rintro i σ' H4 hi e4 ⟨o4, items, rfl, o, hat⟩
    have hil : i < rs.length := by omega
    have hri := List.getElem?_eq_getElem hil
    have hr := hf _ (List.getElem_mem hil)
    have hat' := Z.atI_ofN hri
    have hzi : (nms.zip rs)[i]? = some (nmOf i, rs[i]) := List.getElem?_zip_eq_some.mpr ⟨nms_at (by omega), hri⟩
    have hil2 : items.length = i := by
      rw [hat.len, List.length_take, List.length_zip]
      unfold nms
      rw [List.length_map, List.length_range]
      omega
    have rul : ∀ H9, Ex H4 H9 → ER K _ [some (.int n), some v, some (.str al), some (.ref p), some (.int (i : Nat))] H9 rs[i] := fun H9 e9 => er_ixL (xs := rs) (i := (i : Int)) (er_var (i := 1) rfl r1 (e4.trans e9)) (er_vint (i := 4) rfl) hat'
    refine s_appR (K := K) (α := Itm) (P := fun x H' => KindAt K a.C_Kind (Z.cut H' p) x.1.a (nmOf i) (L rs[i].1).length rs[i].2 ∧ x.2 = rs[i].1) (l := 3) rfl o (fun Q q => ?_) (by omega) fun H5 x H6 e5 hP k6 o6 => ?_
    · refine tup2 ?_
      refine new_kind (nm := nmOf i) (wd := (L rs[i].1).length) (ts := rs[i].2) (er_ixS (z := al) (i := (i : Int)) (er_vstr rfl) (er_vint rfl) allen (alat i (by omega))) (er_lenT (er_ix0 (rul H4 (Ex.refl _))) rfl) (EL.er (el_list (er_ix1 (rul H4 (Ex.refl _))))) ⟨97 + i, rfl, abc_in i (by omega)⟩ hr.l1 hr.l4 hr.bin hr.nd (by have := hr.len; omega) H4 (Ex.refl _) _ fun k H5 hk e5 kat kc => ?_
      refine er_ix0 (x := rs[i]) (rul H5 e5) H5 (Ex.refl _) _ fun v2 H6 e6 r2 => ⟨Evl.sz_of (by show 2 ≤ 100000; decide), fun l hl => ?_⟩
      have e7 := Evl.Ex.new (o := .tup [V.ref k, v2]) hl
      exact q _ _ (⟨k⟩, rs[i].1) (e5.trans (e6.trans e7)) (rep_pair upd_same (rep_obj ⟨k⟩) (r2.mono e7)) ⟨(kc p o.at).mono (cut_mono (e6.trans e7)), rfl⟩
    · refine ⟨k6 _ (e4.trans e5) hpH, _, items ++ [x], rfl, o6, ?_⟩
      have c1 : Ex (Z.cut H4 p) (Z.cut H6 p) := ex_cut (k6 _ (cut_ex.trans e5) cut_same) cut_same
      have c2 : Ex (Z.cut H5 p) (Z.cut H6 p) := ex_cut (k6 _ cut_ex cut_same) cut_same
      rw [take_succ_get hzi]
      refine ⟨by rw [List.length_append, List.length_append, hat.len]; rfl, fun j it k hj hk => ?_⟩
      by_cases hji : j < i
      · rw [List.getElem?_append_left (by omega)] at hj
        rw [List.getElem?_append_left (by rw [← hat.len]; omega)] at hk
        exact ⟨(hat.at_ j it k hj hk).1, (hat.at_ j it k hj hk).2.mono c1⟩
      · have hjl := (List.getElem?_eq_some_iff.mp hj).1
        rw [List.length_append] at hjl
        have hji : j = i := by
          have : [x].length = 1 := rfl
          omega
        subst hji
        rw [List.getElem?_append_right (by omega), hil2, Nat.sub_self] at hj
        rw [List.getElem?_append_right (by rw [← hat.len]; omega), ← hat.len, hil2, Nat.sub_self] at hk
        cases hj
        cases hk
        exact ⟨hP.2, hP.1.mono c2⟩
  · rintro σ' H4 e4 ⟨o4, items, rfl, o, hat⟩
    rw [Int.toNat_natCast] at hat
    have hzl : (nms.zip rs).length = rs.length := by
      rw [List.length_zip]
      unfold nms
      rw [List.length_map, List.length_range]
      omega
    rw [List.take_of_length_le (by rw [hzl]; exact Nat.le_refl _)] at hat
    have hat4 := hat.mono cut_ex
    have hks : (nms.zip rs).map (·.2) = rs := List.map_snd_zip (by unfold nms; rw [List.length_map, List.length_range]; omega)
    have hkf : (nms.zip rs).map (·.1) = nms.take rs.length := fst_zip nms rs
    refine ⟨_, rfl, _, rfl, fun x dx hx hdx hne => ?_⟩
    have f1 : Ex H4 (upd H4 dx (.own x)) := Evl.Ex.new hdx
    have hx' : (upd H4 dx (.own x)) x = none := by rw [upd_ne (Ne.symm hne)]; exact hx
    have f2 : Ex (upd H4 dx (.own x)) (upd (upd H4 dx (.own x)) x (.ins a.C_Rules dx [])) := Evl.Ex.new hx'
    refine ⟨x, n, .ref p, items, nms.zip rs, rfl, ⟨dx, upd_same⟩, hn, by rw [hat.len, hzl]; omega, (o.mono (f1.trans f2)).rep, hat4.mono (f1.trans f2), ?_, fun k hk => ?_, fun H' ex at_ => ⟨rfl, ?_⟩⟩
    · rw [hkf]
      exact nms_nd.sublist (List.take_sublist _ _)
    · have hm : k.2 ∈ rs := (List.of_mem_zip (show (k.1, k.2) ∈ nms.zip rs from hk)).2
      have := hf _ hm
      exact ⟨this.ls, by have := this.l4; omega⟩
    · rw [cut_updn hx'] at ex
      have e5 : Ex H4 H' := f1.trans (ex.trans cut_ex)
      refine q x H' (fresh_back e4 hx) (e4.trans e5) ⟨⟨items, nms.zip rs, at_, hat4.mono e5, hks⟩, fun r hr => ?_, by omega⟩
      have := hf r hr
      exact ⟨this.ls.2, by have := this.l4; omega⟩
end
set_option Elab.async false
set_option linter.all false
set_option maxRecDepth 100000
set_option maxHeartbeats 400000
set_option autoImplicit false
open PySem L2 Z
open Evl (Ex)
section
variable {P : Program} {w : World} {K : PySem.W.Frag} {mg : Str → Option Value} {base : Heap} {a : Ad}
def spTold (K : PySem.W.Frag) (C C2 : Addr) : Sp := fun vs H Q _ => ∃ (w : Addr) (n : Nat) (rs : List Ru) (v u : V) (s : Tp Int) (ls : List Int) (b : Bool), vs = [.ref w, v, u, .bl b] ∧ WAt K C C2 H w n rs ∧ Rep K H v s ∧ Rep K H u ls ∧ (L s).length ≤ 1000 ∧ In ls n ∧ ls.length ≤ 8 ∧ ans n rs (L s) = true ∧
  ∀ H', Ex H H' → Q (.bl (decide (anyO n rs (L s) ls = b))) H'
theorem ok_law_told (T : Txt P K mg a) : FnOk P w K mg base CX0 6 a.f_law_told a.d_law_told ["world", "setting", "letters", "due"] (spTold K a.C_Rules a.C_Kind) := by
  refine T.F_law_told.ok sc_law_told (fun vs H Q E (h : spTold K a.C_Rules a.C_Kind vs H Q E) => by obtain ⟨w, n, rs, v, u, s, ls, b, rfl, _⟩ := h; rfl) (fun cdv A outer s H vs Q E hr h => ⟨_, (pss_cons (ps_set (i := 4) sc_law_told.nd rfl (Or.inl rfl) (pe_callTy (k_call_list_of (K := K) rfl) (by rfl) T.z_list (by decide +kernel) (pa_cons (pv 2) pa_nil)))
  (pss_cons (ps_set (i := 5) sc_law_told.nd rfl (Or.inl rfl) (pe_call (ok_any_order T) (hr.mono (by decide)) (by rfl) T.m_any_order T.F_any_order.kp T.b_any_order .nil passN (pa_cons (pv 0) (pa_cons (pv 1) (pa_cons (pv 4) pa_nil)))))
  (pss_one (ps_ret (pe_and (pe_callB (k_call_isi (K := K) rfl) (by rfl) T.z_isinstance (by decide +kernel) (pa_cons (pv 5) (pa_cons (pe_bltn (v := .ty "bool") (by rfl) T.z_bool (by decide +kernel) rfl) pa_nil))) (pe_and (pe_cmpR op_eq (pv 5) (pv 3) (nomark _)) (pe_one (pe_cmpR (k_op_eqD (K := K) rfl hr.units) (pv 4) (pv 2) (nomark _))))))))), ?_⟩)
  obtain ⟨w, n, rs, v, u, s, ls, b, rfl, W, r1, r2, hsl, hin, hll, hans, q⟩ := h
  refine q_setL (K := K) (xs := ls) (el_list (er_var rfl r2 (Ex.refl _))) fun p H1 hp e1 o1 => ?_
  refine ⟨_, rfl, _, rfl, _, rfl, w, n, rs, v, .ref p, s, ls, rfl, W.mono e1, r1.mono e1, o1.rep, hsl, hin, by omega, fun _ _ H2 e2 => ?_, fun _ h8 => by omega, fun hf => by rw [hans] at hf; cases hf⟩
  refine s_ret (K := K) (x := decide (anyO n rs (L s) ls = b)) (ER.is (er_andU (er_isi_bool (er_vbl rfl)) (er_andU (er_eqB (er_vbl rfl) (er_vbl rfl)) (er_eqD (x := ls) (y := ls) (er_own rfl o1 e2) (er_var rfl r2 (e1.trans e2))))) (by simp)) fun v H3 e3 r3 => ?_
  rw [Rep.bool r3]
  exact q H3 (e1.trans (e2.trans e3))
theorem er_told {C C2 : Addr} {E : XK} {G H : Hp} {te tu tv tb : TE} {σ : L2.St} {w : Addr} {n : Nat} {rs : List Ru} {s : Tp Int} {ls : List Int} {b : Bool} (h : EV K te σ H (.ref w)) (W : WAt K C C2 G w n rs) (e : Ex G H) (hu : ER K tu σ H s) (hv : ER K tv σ H ls) (hb : ER K tb σ H b)
    (hsl : (L s).length ≤ 1000) (hin : In ls n) (hll : ls.length ≤ 8) (hans : ans n rs (L s) = true) : ER K (tCall (spTold K C C2) [] E (tCons te (tCons tu (tCons tv (tCons tb tNil))))) σ H (decide (anyO n rs (L s) ls = b)) := fun H1 e1 Q q =>
  h H1 e1 _ fun H2 e2 => hu H2 (e1.trans e2) _ fun v H3 e3 r3 => hv H3 ((e1.trans e2).trans e3) _ fun u H4 e4 r4 => hb.evB H4 (((e1.trans e2).trans e3).trans e4) _ fun H5 e5 =>
    ⟨w, n, rs, v, u, s, ls, b, rfl, W.mono (e.trans (e1.trans (e2.trans (e3.trans (e4.trans e5))))), r3.mono (e4.trans e5), r4.mono e5, hsl, hin, hll, hans, fun H6 e6 => q _ H6 (e2.trans (e3.trans (e4.trans (e5.trans e6)))) (rep_bool _)⟩
def spRef (K : PySem.W.Frag) (C C2 : Addr) : Sp := fun vs H Q _ => ∃ (w : Addr) (n : Nat) (rs : List Ru) (v u : V) (s : Tp Int) (ls : List Int) (wd : Str), vs = [.ref w, v, u, .str wd] ∧ WAt K C C2 H w n rs ∧ Rep K H v s ∧ Rep K H u ls ∧ (L s).length ≤ 1000 ∧ In ls n ∧ ls.length ≤ 1000 ∧
  ((wd = "setting" ∧ ans n rs (L s) = false) ∨ (wd = "many" ∧ ans n rs (L s) = true ∧ 8 < ls.length)) ∧ ∀ H', Ex H H' → Q (.bl true) H'
theorem ok_law_refused (T : Txt P K mg a) : FnOk P w K mg base CX0 6 a.f_law_refused a.d_law_refused ["world", "setting", "letters", "word"] (spRef K a.C_Rules a.C_Kind) := by
  refine T.F_law_refused.ok sc_law_refused (fun vs H Q E (h : spRef K a.C_Rules a.C_Kind vs H Q E) => by obtain ⟨w, n, rs, v, u, s, ls, wd, rfl, _⟩ := h; rfl) (fun cdv A outer s H vs Q E hr h => ⟨_, (pss_cons (ps_try_asMany (Wout := fun _ _ _ _ => False) rfl rfl sc_law_refused.nd takes0
  (fun W pn xe tk po => (pss_one (ps_expr (pe_callS (ok_any_order T) (hr.mono (by decide)) (by rfl) T.m_any_order T.F_any_order.kp T.b_any_order (fun σ => passAt tk σ) (pa_cons (pv 0) (pa_cons (pv 1) (pa_cons (pe_callTy (k_call_list_of (K := K) rfl) (by rfl) T.z_list (by decide +kernel) (pa_cons (pv 2) pa_nil)) pa_nil)))))))
  (.cons (i := 4) rfl rfl ⟨rfl, by decide, Or.inl T.m_NotAnAnswer⟩ (fun ae oe cls d pn hz hf => (pss_cons (ps_if (PW.pt (pw_or (pt_val (pe_callB (call_isX hz hf) (by rfl) T.z_isinstance (by decide +kernel) (pa_cons (pv 4) (pa_cons (pe_glob (v := .ref a.C_TooMany) (by rfl) T.m_TooMany rfl) pa_nil)))) (pw_or (pt_not (pt_val (pe_callB (call_isX hz hf) (by rfl) T.z_isinstance (by decide +kernel) (pa_cons (pv 4) (pa_cons (pe_glob (v := .ref a.C_StepError) (by rfl) T.m_StepError rfl) pa_nil))))) (pw_or1 (pt_not (pt_val (pe_callB (call_isX hz hf) (by rfl) T.z_isinstance (by decide +kernel) (pa_cons (pv 4) (pa_cons (pe_bltn (v := .ty "ValueError") (by rfl) T.z_ValueError (by decide +kernel) rfl) pa_nil)))))))))
  (pss_one (ps_ret pe_bl))
  pss_nil)
  (pss_one (ps_ret (pe_and (pe_cmpR op_eq (pv 3) pe_str (nomark _)) (pe_and (pe_callB (k_call_isi (K := K) rfl) (by rfl) T.z_isinstance (by decide +kernel) (pa_cons (pe_xf T.xf_NotAnAnswer T.nf_NotAnAnswer_setting hz hf (pv 4)) (pa_cons (pe_bltn (v := .ty "tuple") (by rfl) T.z_tuple (by decide +kernel) rfl) pa_nil))) (pe_one (pe_cmpR (k_op_eqD (K := K) rfl hr.units) (pe_xf T.xf_NotAnAnswer T.nf_NotAnAnswer_setting hz hf (pv 4)) (pv 1) (nomark _))))))))) (.cons (i := 4) rfl rfl ⟨rfl, by decide, Or.inl T.m_TooMany⟩ (fun ae oe cls d pn hz hf => (pss_cons (ps_if (PW.pt (pw_or (pt_not (pt_val (pe_callB (call_isX hz hf) (by rfl) T.z_isinstance (by decide +kernel) (pa_cons (pv 4) (pa_cons (pe_glob (v := .ref a.C_StepError) (by rfl) T.m_StepError rfl) pa_nil))))) (pw_or1 (pt_not (pt_val (pe_callB (call_isX hz hf) (by rfl) T.z_isinstance (by decide +kernel) (pa_cons (pv 4) (pa_cons (pe_bltn (v := .ty "ValueError") (by rfl) T.z_ValueError (by decide +kernel) rfl) pa_nil))))))))
  (pss_one (ps_ret pe_bl))
  pss_nil)
  (pss_one (ps_ret (pe_and (pe_cmpR op_eq (pv 3) pe_str (nomark _)) (pe_and (pe_callB (k_call_isi (K := K) rfl) (by rfl) T.z_isinstance (by decide +kernel) (pa_cons (pe_xf T.xf_TooMany T.nf_TooMany_limit hz hf (pv 4)) (pa_cons (pe_bltn (v := .ty "int") (by rfl) T.z_int (by decide +kernel) rfl) pa_nil))) (pe_and (pe_not (pe_callB (k_call_isi (K := K) rfl) (by rfl) T.z_isinstance (by decide +kernel) (pa_cons (pe_xf T.xf_TooMany T.nf_TooMany_limit hz hf (pv 4)) (pa_cons (pe_bltn (v := .ty "bool") (by rfl) T.z_bool (by decide +kernel) rfl) pa_nil)))) (pe_one (pe_cmpR op_eq (pe_xf T.xf_TooMany T.nf_TooMany_limit hz hf (pv 4)) pe_int (nomark _)))))))))) .nil)))
  (pss_one (ps_ret pe_bl))), ?_⟩)
  obtain ⟨w, n, rs, v, u, s, ls, wd, rfl, W, r1, r2, hsl, hin, hll, hcase, q⟩ := h
  refine s_seq ?_
  refine s_drop ?_
  refine ⟨_, rfl, _, rfl, el_list (er_var rfl r2 (Ex.refl _)) H (Ex.refl _) _ fun p H1 hp e1 o1 => ⟨w, n, rs, v, .ref p, s, ls, rfl, W.mono e1, r1.mono e1, o1.rep, hsl, hin, hll, fun ha h8 => ?_, fun ha h8 d H2 e2 hd => ?_, fun ha u d H2 e2 ru hd => ?_⟩⟩
  · exfalso
    rcases hcase with ⟨_, h⟩ | ⟨_, _, h⟩
    · rw [ha] at h; cases h
    · omega
  · obtain rfl : wd = "many" := by
      rcases hcase with ⟨_, h⟩ | ⟨h, _, _⟩
      · rw [ha] at h; cases h
      · exact h
    refine ⟨false, T.exm_TooMany_NotAnAnswer, fun z => absurd z Bool.false_ne_true, fun _ => ⟨true, T.exm_TooMany_TooMany, fun _ ae hae => ?_, fun z => absurd z.symm Bool.false_ne_true⟩⟩
    refine q_ifF (K := K) (et_orU (et_not (et_B (er_isX (ev_var rfl) hd (Ex.refl _) T.xc_TooMany (fun u r => r) T.kit_TooMany_StepError))) (et_not (et_B (er_isX (ev_var rfl) hd (Ex.refl _) T.xc_TooMany (fun u r => r) T.kit_TooMany_ValueError)))) rfl fun H3 e3 => ?_
    have fl : ∀ {σ : L2.St} {te : TE}, EV K te σ H3 (.ref ae) → ER K (tXf ae (.ref a.C_TooMany) (some d) a.C_TooMany "limit" te) σ H3 (8 : Int) := fun {σ te} h => er_xf (f := "limit") h hd e3 rfl (rep_int 8)
    refine s_ret (K := K) (x := true) (ER.is (er_andU (er_eqS (er_vstr rfl) er_str) (er_andU (er_isi_int (fl (ev_var rfl))) (er_andU (er_notV (er_isi_intb (fl (ev_var rfl)))) (er_eqI (fl (ev_var rfl)) er_int)))) (by decide)) fun v H4 e4 r4 => ?_
    rw [Rep.bool r4]
    exact q H4 (e1.trans (e2.trans (e3.trans e4)))
  · obtain rfl : wd = "setting" := by
      rcases hcase with ⟨h, _⟩ | ⟨_, h, _⟩
      · exact h
      · rw [ha] at h; cases h
    refine ⟨true, T.exm_NotAnAnswer_NotAnAnswer, fun _ ae hae => ?_, fun z => absurd z.symm Bool.false_ne_true⟩
    refine q_ifF (K := K) (et_orU (et_B (er_isX (ev_var rfl) hd (Ex.refl _) T.xc_NotAnAnswer (fun u r => r) T.kit_NotAnAnswer_TooMany)) (et_orU (et_not (et_B (er_isX (ev_var rfl) hd (Ex.refl _) T.xc_NotAnAnswer (fun u r => r) T.kit_NotAnAnswer_StepError))) (et_not (et_B (er_isX (ev_var rfl) hd (Ex.refl _) T.xc_NotAnAnswer (fun u r => r) T.kit_NotAnAnswer_ValueError))))) rfl fun H3 e3 => ?_
    have fl : ∀ {σ : L2.St} {te : TE}, EV K te σ H3 (.ref ae) → ER K (tXf ae (.ref a.C_NotAnAnswer) (some d) a.C_NotAnAnswer "setting" te) σ H3 s := fun {σ te} h => er_xf (f := "setting") h hd e3 rfl ru
    refine s_ret (K := K) (x := true) (ER.is (er_andU (er_eqS (er_vstr rfl) er_str) (er_andU (er_isi_tup (xs := s) (fl (ev_var rfl))) (er_eqD (x := s) (y := s) (fl (ev_var rfl)) (er_var rfl r1 (e1.trans (e2.trans e3)))))) (by simp)) fun v H4 e4 r4 => ?_
    rw [Rep.bool r4]
    exact q H4 (e1.trans (e2.trans (e3.trans e4)))
theorem er_refd {C C2 : Addr} {E : XK} {G H : Hp} {te tu tv tb : TE} {σ : L2.St} {w : Addr} {n : Nat} {rs : List Ru} {s : Tp Int} {ls : List Int} {wd : Str} (h : EV K te σ H (.ref w)) (W : WAt K C C2 G w n rs) (e : Ex G H) (hu : ER K tu σ H s) (hv : ER K tv σ H ls) (hb : ER K tb σ H wd)
    (hsl : (L s).length ≤ 1000) (hin : In ls n) (hll : ls.length ≤ 1000) (hc : (wd = "setting" ∧ ans n rs (L s) = false) ∨ (wd = "many" ∧ ans n rs (L s) = true ∧ 8 < ls.length)) : ER K (tCall (spRef K C C2) [] E (tCons te (tCons tu (tCons tv (tCons tb tNil))))) σ H true := fun H1 e1 Q q =>
  h H1 e1 _ fun H2 e2 => hu H2 (e1.trans e2) _ fun v H3 e3 r3 => hv H3 ((e1.trans e2).trans e3) _ fun u H4 e4 r4 => hb.evS H4 (((e1.trans e2).trans e3).trans e4) _ fun H5 e5 =>
    ⟨w, n, rs, v, u, s, ls, wd, rfl, W.mono (e.trans (e1.trans (e2.trans (e3.trans (e4.trans e5))))), r3.mono (e4.trans e5), r4.mono e5, hsl, hin, hll, hc, fun H6 e6 => q _ H6 (e2.trans (e3.trans (e4.trans (e5.trans e6)))) (rep_bool _)⟩
end
set_option Elab.async false
set_option linter.all false
set_option maxRecDepth 100000
set_option maxHeartbeats 400000
set_option autoImplicit false
open PySem L2 Z
open Evl (Ex)
/-- no answers, none of them long -/
def Bad (n : Nat) (rs : List Ru) (ws : List (Tp Int)) : Prop := ∀ t : Tp Int, t ∈ ws → ans n rs (L t) = false ∧ (L t).length ≤ n + 1
theorem ans_len {n : Nat} {rs : List Ru} {s : List Int} (h : s.length ≠ n) : ans n rs s = false := by
  have e : isB s n = false := by
    cases hb : isB s n with
    | false => rfl
    | true =>
      have := (isB_iff.mp hb).1
      exact absurd (by omega) h
  unfold ans
  rw [e]
  rfl
theorem ans_two {n : Nat} {rs : List Ru} {s : List Int} (h : (2 : Int) ∈ s) : ans n rs s = false := by
  have e : isB s n = false := by
    cases hb : isB s n with
    | false => rfl
    | true =>
      have := binL_iff.mp (isB_iff.mp hb).2 2 h
      omega
  unfold ans
  rw [e]
  rfl
theorem ans_keeps {n : Nat} {rs : List Ru} {s : List Int} (h : keeps s rs = false) : ans n rs s = false := by
  unfold ans
  rw [h, Bool.and_false]
section
variable {P : Program} {w : World} {K : PySem.W.Frag} {mg : Str → Option Value} {base : Heap} {a : Ad}
def spWrong (K : PySem.W.Frag) : Sp := fun vs H Q _ => ∃ (n i : Nat) (v u : V) (s : Tp Int) (rs : List Ru), vs = [v, u, .int i] ∧ Rep K H v s ∧ Rep K H u rs ∧ (L s).length = n ∧ i < n ∧ n ≤ 100 ∧ RulesIn rs n ∧ rs.length ≤ 1000 ∧
  ∀ p H' ws, H p = none → Ex H H' → Z.Own K H' p ws → (Bad n rs ws ∧ ws.length ≤ 4) → Q (.ref p) H'
theorem er_put1 {σ : L2.St} {H : Hp} {ta tb tc td : TE} {s : Tp Int} {i n : Nat} {x : Int} (h : ER K ta σ H s) (h2 : ER K tb σ H (i : Int)) (h3 : ER K tc σ H x) (h4 : ER K td σ H ((i : Int) + 1)) (hn : (L s).length = n) (hi : i < n) (hz : n ≤ 100) :
    ER K (tOp (rCatA K) (tOp (rCatA K) (tSl (rSlA K) ta tNoPart (tPart tb)) (tTup (tCons tc tNil))) (tSl (rSlA K) ta (tPart td) tNoPart)) σ H (show Tp Int from ((L s).take i ++ [x]) ++ (L s).drop (i + 1)) := by
  have h5 := er_slT (xs := s) h eo_none (eo_some h2)
  have h4 : ER K td σ H ((i + 1 : Nat) : Int) := ER.is h4 (by omega)
  rw [show cutD (α := Int) s none (some (i : Int)) = (L s).take i from cut_take (xs := L s) (by omega)] at h5
  have h6 := er_slT (xs := s) h (eo_some h4) eo_none
  rw [show cutD (α := Int) s (some ((i + 1 : Nat) : Int)) none = (L s).drop (i + 1) from cut_drop (xs := L s) (by omega)] at h6
  refine er_catT (α := Int) (xs := (show Tp Int from (L s).take i ++ [x])) (ys := (show Tp Int from (L s).drop (i + 1))) (er_catT (α := Int) (xs := (show Tp Int from (L s).take i)) (ys := (show Tp Int from [x])) h5 (er_tup (α := Int) (xs := [x]) (ea_cons h3 ea_nil)) ?_) h6 ?_
  · show ((L s).take i).length + 1 ≤ 100000
    rw [List.length_take]
    omega
  · show ((L s).take i ++ [x]).length + ((L s).drop (i + 1)).length ≤ 100000
    simp
    omega
theorem ok_law_wrong_settings (T : Txt P K mg a) : FnOk P w K mg base CX0 3 a.f_law_wrong_settings a.d_law_wrong_settings ["setting", "rules", "at"] (spWrong K) := by
  refine T.F_law_wrong_settings.ok sc_law_wrong_settings (fun vs H Q E (h : spWrong K vs H Q E) => by obtain ⟨n, i, v, u, s, rs, rfl, _⟩ := h; rfl) (fun cdv A outer s H vs Q E hr h => ⟨_, (pss_cons (ps_set (i := 3) sc_law_wrong_settings.nd rfl (Or.inl rfl) (pe_lst (pa_cons (pe_op (k_op_catA (K := K) rfl) (pv 0) (pe_tup (pa_cons pe_int pa_nil))) (pa_cons (pe_slice (k_sl_tupA (K := K) rfl) (pv 0) po_none (po_some (pe_un un_neg pe_int))) (pa_cons (pe_op (k_op_catA (K := K) rfl) (pe_op (k_op_catA (K := K) rfl) (pe_slice (k_sl_tupA (K := K) rfl) (pv 0) po_none (po_some (pv 2))) (pe_tup (pa_cons pe_int pa_nil))) (pe_slice (k_sl_tupA (K := K) rfl) (pv 0) (po_some (pe_op op_add (pv 2) pe_int)) po_none)) pa_nil)))))
  (pss_cons (ps_for PassesOwn.never rfl (pi_range1 (by rfl) T.z_range (pa_cons (pe_callB (k_call_len_seq (K := K) rfl) (by rfl) T.z_len (by decide +kernel) (pa_cons (pv 0) pa_nil)) pa_nil)) (pg_name (i := 4) sc_law_wrong_settings.nd rfl (Or.inl rfl))
  (pss_cons (ps_set (i := 5) sc_law_wrong_settings.nd rfl (Or.inl rfl) (pe_op (k_op_catA (K := K) rfl) (pe_op (k_op_catA (K := K) rfl) (pe_slice (k_sl_tupA (K := K) rfl) (pv 0) po_none (po_some (pv 4))) (pe_tup (pa_cons (pe_op op_sub pe_int (pe_ix (k_ix_tup (K := K) rfl) (pv 0) (pv 4) (fun _ _ => rfl))) pa_nil))) (pe_slice (k_sl_tupA (K := K) rfl) (pv 0) (po_some (pe_op op_add (pv 4) pe_int)) po_none)))
  (pss_one (ps_if (PW.pt (pw_and (pt_cmpR op_eq (pe_callB (k_call_len_seq (K := K) rfl) (by rfl) T.z_len (by decide +kernel) (pa_cons (pv 3) pa_nil)) pe_int (nomark _)) (pw_and1 (pt_not (pt_val (pe_call (ok_law_keeps T) (hr.mono (by decide)) (by rfl) T.m__law_keeps T.F_law_keeps.kp T.b_law_keeps .nil pass0 (pa_cons (pv 5) (pa_cons (pv 1) pa_nil))))))))
  (pss_one (ps_expr (k_pe_bm (K := K) rfl (pe_bm PySem.F.plainAttrs_list PySem.F.slot_list_append PySem.F.type_list_append mt_append (pv 3) (pa_cons (pv 5) pa_nil)))))
  pss_nil))))
  (pss_one (ps_ret (pv 3))))), ?_⟩)
  obtain ⟨n, i, v, u, s, rs, rfl, r1, r2, hsl, hi, hn, hrs, hrl, q⟩ := h
  refine q_setL (K := K) (α := Tp Int) (xs := [(show Tp Int from L s ++ [0]), (show Tp Int from cutD (L s) none (some (-1))), (show Tp Int from ((L s).take i ++ [2]) ++ (L s).drop (i + 1))])
    (el_lst (ea_cons (er_catT (α := Int) (xs := s) (ys := (show Tp Int from [(0 : Int)])) (er_var rfl r1 (Ex.refl _)) (er_tup (ea_cons er_int ea_nil)) (by show (L s).length + 1 ≤ _; omega))
      (ea_cons (er_slT (xs := s) (er_var rfl r1 (Ex.refl _)) eo_none (eo_some (er_neg er_int))) (ea_cons (er_put1 (er_var rfl r1 (Ex.refl _)) (er_vint rfl) er_int (er_add (er_vint rfl) er_int) hsl hi hn) ea_nil))) (by show 3 ≤ 100000; decide)) fun p H1 hp e1 o1 => ?_
  have hm1 : cutD (L s) none (some (-1)) = (L s).take ((L s).length - 1) := cut_m1
  have b0 : Bad n rs [(show Tp Int from L s ++ [0]), (show Tp Int from cutD (L s) none (some (-1))), (show Tp Int from ((L s).take i ++ [2]) ++ (L s).drop (i + 1))] := fun t ht => by
    rcases List.mem_cons.mp ht with rfl | ht
    · exact ⟨ans_len (by show (L s ++ [0]).length ≠ n; rw [List.length_append, hsl]; show n + 1 ≠ n; omega), by show (L s ++ [0]).length ≤ n + 1; rw [List.length_append, hsl]; exact Nat.le_refl _⟩
    · rcases List.mem_cons.mp ht with rfl | ht
      · have hl : (cutD (L s) none (some (-1))).length = n - 1 := by rw [hm1, List.length_take]; omega
        exact ⟨ans_len (by show (cutD (L s) none (some (-1))).length ≠ n; omega), by show (cutD (L s) none (some (-1))).length ≤ n + 1; omega⟩
      · have := List.mem_singleton.mp ht
        subst this
        refine ⟨ans_two (by show (2 : Int) ∈ ((L s).take i ++ [2]) ++ (L s).drop (i + 1); simp), ?_⟩
        show (((L s).take i ++ [2]) ++ (L s).drop (i + 1)).length ≤ n + 1
        simp
        omega
  refine q_rng (K := K) (n := ((L s).length : Int)) (er_lenT (er_var rfl r1 e1) rfl) (by omega) (by omega) fun H2 e2 => ⟨H, fun j σ' H' => ∃ (o4 o5 : Option V) (ws : List (Tp Int)), σ' = [some v, some u, some (.int i), some (.ref p), o4, o5] ∧ Z.Own K H' p ws ∧ Bad n rs ws ∧ 3 ≤ ws.length ∧ ws.length ≤ 4, e1.trans e2, ⟨_, _, _, rfl, o1.mono e2, b0, Nat.le_refl _, by show 3 ≤ 4; decide⟩, ?_, ?_⟩
  · rintro j σ' H3 hj e3 ⟨o4, o5, ws, rfl, o, hb, h3, h4⟩
    have hjn : j < n := by omega
    have hat := atI_D (xs := L s) (i := (j : Int)) (by omega) (by omega)
    have hlen : (((L s).take j ++ [1 - (L s).getD (j : Int).toNat 0]) ++ (L s).drop (j + 1)).length = n := by
      simp
      omega
    refine q_set (K := K) (x := (show Tp Int from ((L s).take j ++ [1 - (L s).getD (j : Int).toNat 0]) ++ (L s).drop (j + 1))) (er_put1 (er_var rfl r1 e3) (er_vint rfl) (er_sub er_int (er_ixT (xs := s) (er_var rfl r1 e3) (er_vint rfl) hat)) (er_add (er_vint rfl) er_int) hsl hjn hn) fun v5 H4 e4 r5 => ?_
    refine s_if (K := K) (b := decide ((ws.length : Int) = 3) && !keeps (((L s).take j ++ [1 - (L s).getD (j : Int).toNat 0]) ++ (L s).drop (j + 1)) rs) (et_andU (et_test (er_eqI (ed_lenL (er_own rfl (o.mono e4) (Ex.refl _))) er_int)) (et_not (et_test (er_c2 (x := (show Tp Int from ((L s).take j ++ [1 - (L s).getD (j : Int).toNat 0]) ++ (L s).drop (j + 1))) (y := rs) (er_var rfl r5 (Ex.refl _)) (er_var rfl r2 (e3.trans e4)) ⟨by show RulesIn rs (((L s).take j ++ [1 - (L s).getD (j : Int).toNat 0]) ++ (L s).drop (j + 1)).length; rw [hlen]; exact hrs, hrl⟩)))) (fun hc H5 e5 => ?_) (fun hc H5 e5 => ⟨e3.trans (e4.trans e5), _, _, ws, rfl, o.mono (e4.trans e5), hb, h3, h4⟩)
    rw [Bool.and_eq_true, decide_eq_true_eq, Bool.not_eq_true'] at hc
    refine s_app (K := K) (l := 3) (x := (show Tp Int from ((L s).take j ++ [1 - (L s).getD (j : Int).toNat 0]) ++ (L s).drop (j + 1))) rfl (o.mono (e4.trans e5)) (er_var rfl r5 e5) (by omega) fun H6 k6 _ o6 => ⟨k6 _ (e3.trans (e4.trans e5)) hp, _, _, _, rfl, o6, fun t ht => ?_, by rw [List.length_append]; omega, by rw [List.length_append]; show ws.length + 1 ≤ 4; omega⟩
    rcases List.mem_append.mp ht with ht | ht
    · exact hb t ht
    · have := List.mem_singleton.mp ht
      subst this
      exact ⟨ans_keeps hc.2, by show (((L s).take j ++ [1 - (L s).getD (j : Int).toNat 0]) ++ (L s).drop (j + 1)).length ≤ n + 1; omega⟩
  · rintro σ' H3 e3 ⟨o4, o5, ws, rfl, o, hb, h3, h4⟩
    exact ⟨_, rfl, q p H3 ws hp e3 o ⟨hb, h4⟩⟩
theorem lp_wrong {E : XK} {te tu ti : TE} {σ : L2.St} {H : Hp} {s : Tp Int} {rs : List Ru} {n i : Nat} (h : ER K te σ H s) (h2 : ER K tu σ H rs) (h3 : ER K ti σ H (i : Int)) (hsl : (L s).length = n) (hi : i < n) (hn : n ≤ 100) (hrs : RulesIn rs n) (hrl : rs.length ≤ 1000) :
    LP K (tCall (spWrong K) [] E (tCons te (tCons tu (tCons ti tNil)))) σ H fun ws : List (Tp Int) => Bad n rs ws ∧ ws.length ≤ 4 := fun H1 e Q q =>
  h H1 e _ fun v H2 e2 r => h2 H2 (e.trans e2) _ fun u H3 e3 r2 => h3.evI H3 ((e.trans e2).trans e3) _ fun H4 e4 => ⟨n, i, v, u, s, rs, rfl, r.mono (e3.trans e4), r2.mono e4, hsl, hi, hn, hrs, hrl, fun p H5 ls hp e5 o hl => q p H5 ls (fresh_back ((e2.trans e3).trans e4) hp) (((e2.trans e3).trans e4).trans e5) o hl⟩
end
set_option Elab.async false
set_option linter.all false
set_option maxRecDepth 100000
set_option maxHeartbeats 400000
set_option autoImplicit false
open PySem L2 Z
open Evl (Ex)
theorem flip1_comm (s : List Int) (p q : Int) : flip1 (flip1 s p) q = flip1 (flip1 s q) p := by
  by_cases h : p.toNat = q.toNat
  · unfold flip1
    rw [h]
  · have h' : ¬ q.toNat = p.toNat := fun z => h z.symm
    unfold flip1
    have e1 : ∀ x, (s.set p.toNat x).getD q.toNat 0 = s.getD q.toNat 0 := fun x => by
      rw [List.getD_eq_getElem?_getD, List.getD_eq_getElem?_getD, List.getElem?_set_ne h]
    have e2 : ∀ x, (s.set q.toNat x).getD p.toNat 0 = s.getD p.toNat 0 := fun x => by
      rw [List.getD_eq_getElem?_getD, List.getD_eq_getElem?_getD, List.getElem?_set_ne h']
    rw [e1, e2, List.set_comm _ _ h]
theorem flipL_perm {s : List Int} {ps qs : List Int} (h : ps.Perm qs) : flipL s ps = flipL s qs := by
  induction h generalizing s with
  | nil => rfl
  | cons x _ ih => exact ih
  | swap x y l =>
    show flipL (flip1 (flip1 s y) x) l = flipL (flip1 (flip1 s x) y) l
    rw [flip1_comm]
  | trans _ _ ih1 ih2 => exact ih1.trans ih2
theorem zip_rev : ∀ {xs ys : List Int}, xs.length = ys.length → (xs.zip ys).reverse = xs.reverse.zip ys.reverse
  | [], [], _ => rfl
  | x :: xs, y :: ys, h => by
    have h' : xs.length = ys.length := by simpa using h
    rw [List.zip_cons_cons, List.reverse_cons, List.reverse_cons, List.reverse_cons, zip_rev h', List.zip_append (by rw [List.length_reverse, List.length_reverse]; exact h')]
    rfl
theorem pick_rev {ls cs : List Int} (h : ls.length = cs.length) : pick ls.reverse cs = (pick ls cs.reverse).reverse := by
  have e := zip_rev (xs := ls) (ys := cs.reverse) (by rw [List.length_reverse]; exact h)
  rw [List.reverse_reverse] at e
  unfold pick
  rw [← e, List.filter_reverse, List.map_reverse]
theorem due_rev {s : List Int} {rs : List Ru} {ls : List Int} : due s rs ls.reverse = due s rs ls := by
  have key : ∀ c : List Int, c.length = ls.length → flipL s (pick ls.reverse c) = flipL s (pick ls c.reverse) := fun c hc => by
    rw [pick_rev hc.symm]
    exact flipL_perm (List.reverse_perm _)
  have mr : ∀ c : List Int, c ∈ lawT ls.length → c.reverse ∈ lawT ls.length := fun c hc => by
    have := mem_lawT.mp hc
    refine mem_lawT.mpr ⟨by rw [List.length_reverse]; exact this.1, binL_iff.mpr fun v hv => binL_iff.mp this.2 v (List.mem_reverse.mp hv)⟩
  unfold due
  rw [List.length_reverse, Bool.eq_iff_iff, List.all_eq_true, List.all_eq_true]
  constructor
  · intro h c hc
    have := h c.reverse (mr c hc)
    rwa [key _ (by rw [List.length_reverse]; exact (mem_lawT.mp hc).1), List.reverse_reverse] at this
  · intro h c hc
    rw [key _ (mem_lawT.mp hc).1]
    exact h _ (mr c hc)
theorem anyO_nil {n : Int} {rs : List Ru} {s : List Int} (h : ans n rs s = true) : anyO n rs s [] = true := by
  unfold anyO
  rw [List.all_eq_true]
  intro c hc
  have := mem_allB.mp hc
  rw [List.eq_nil_of_length_eq_zero this.1]
  exact h
theorem Letters.sub {ls ms : List Int} {n : Int} (h : Letters ls n) (k : ms.Sublist ls) : Letters ms n := ⟨h.1.sublist k, fun l hl => h.2 l (k.subset hl)⟩
section
variable {P : Program} {w : World} {K : PySem.W.Frag} {mg : Str → Option Value} {base : Heap} {a : Ad}
theorem rf_rule {E : XK} {tc tn ts tl tm : TE} {σ : L2.St} {H : Hp} {c md : Int} {n : Nat} {s : Tp Int} {ls : List Int} (hc : ER K tc σ H c) (hn : ER K tn σ H (n : Int)) (hs : ER K ts σ H s) (hl : ER K tl σ H ls) (hm : ER K tm σ H md)
    (hsl : (L s).length = n) (hsb : binL (L s) = true) (h1 : 1 ≤ n) (h2 : n ≤ 100) : RF K (tCall (spRule K) [] E (tCons tc (tCons tn (tCons ts (tCons tl (tCons tm tNil)))))) σ H (GoodR n (L s)) := fun H1 e Q q =>
  hc.evI H1 e _ fun H2 e2 => hn.evI H2 (e.trans e2) _ fun H3 e3 => hs H3 ((e.trans e2).trans e3) _ fun v H4 e4 r4 => hl H4 (((e.trans e2).trans e3).trans e4) _ fun u H5 e5 r5 => hm.evI H5 ((((e.trans e2).trans e3).trans e4).trans e5) _ fun H6 e6 =>
    ⟨c, md, n, v, u, s, ls, rfl, r4.mono (e5.trans e6), r5.mono e6, hsl, hsb, h1, h2, fun x H7 r e7 hr hg => q x H7 r (e2.trans (e3.trans (e4.trans (e5.trans (e6.trans e7))))) (fun D ⟨ws, hD⟩ => hr D ⟨ws, (e2.trans (e3.trans (e4.trans (e5.trans e6)))) _ _ hD⟩) hg⟩
theorem q_newW {C C2 : Addr} {E : XK} {te tu : TE} {σ : L2.St} {H : Hp} {n i : Nat} {rs : List Ru} {u : TS} {D : Ends} (h : ER K te σ H (n : Int)) (h2 : ER K tu σ H rs) (hn : n ≤ 14) (hl : rs.length ≤ 12) (hf : ∀ r, r ∈ rs → Fine n r)
    (k : ∀ w H', Ex H H' → WAt K C C2 H' w n rs → u D (σ.set i (some (.ref w))) H') : tSeq (tAsg (tCall (spLWorld K C C2) [] E (tCons te (tCons tu tNil))) (gName i)) u D σ H :=
  h.evI H (Ex.refl _) _ fun H1 e1 => h2 H1 e1 _ fun v H2 e2 r2 => ⟨n, v, rs, rfl, r2, hn, hl, hf, fun w H3 _ e3 W => k w H3 (e1.trans (e2.trans e3)) W⟩
end
set_option Elab.async false
set_option linter.all false
set_option maxRecDepth 100000
set_option maxHeartbeats 1000000
set_option autoImplicit false
open PySem L2 Z
open Evl (Ex)
section
variable {P : Program} {w : World} {K : PySem.W.Frag} {mg : Str → Option Value} {base : Heap} {a : Ad}
theorem ok_law (T : Txt P K mg a) : FnOk P w K mg base CX0 7 a.f_law a.d_law ["script"] (spLaw K) := by
  refine T.F_law.ok sc_law (fun vs H Q E (h : spLaw K vs H Q E) => by obtain ⟨s0, ns, rfl, _⟩ := h; rfl) (fun cdv A outer s H vs Q E hr h => ⟨_, (pss_cons (ps_set (i := 1) sc_law.nd rfl (Or.inr rfl) (pe_call (ok_law_draw T) (hr.mono (by decide)) (by rfl) T.m__law_draw T.F_law_draw.kp T.b_law_draw .nil pass0 (pa_cons (pe_call (ok_law_cell T) (hr.mono (by decide)) (by rfl) T.m__law_cell T.F_law_cell.kp T.b_law_cell .nil pass0 (pa_cons (pv 0) (pa_cons pe_int pa_nil))) (pa_cons (pe_lst (pa_cons pe_int (pa_cons pe_int (pa_cons pe_int (pa_cons pe_int (pa_cons pe_int (pa_cons pe_int (pa_cons pe_int (pa_cons pe_int pa_nil))))))))) pa_nil))))
  (pss_cons (ps_set (i := 2) sc_law.nd rfl (Or.inr rfl) (pe_op op_add pe_int (pe_ix (k_ix_list (K := K) rfl) (pv 1) pe_int (fun _ _ => rfl))))
  (pss_cons (ps_set (i := 3) sc_law.nd rfl (Or.inl rfl) (pe_ix (k_ix_list (K := K) rfl) (pv 1) pe_int (fun _ _ => rfl)))
  (pss_cons (ps_if (pt_cmpR op_eq (pe_ix (k_ix_list (K := K) rfl) (pv 1) pe_int (fun _ _ => rfl)) pe_int (nomark _))
  (pss_cons (ps_set (i := 2) sc_law.nd rfl (Or.inr rfl) (pe_op op_add pe_int (pe_ix (k_ix_list (K := K) rfl) (pv 1) pe_int (fun _ _ => rfl))))
  (pss_one (ps_set (i := 3) sc_law.nd rfl (Or.inl rfl) (pe_ix (k_ix_list (K := K) rfl) (pv 1) pe_int (fun _ _ => rfl)))))
  pss_nil)
  (pss_cons (ps_set (i := 4) sc_law.nd rfl (Or.inr rfl) (pe_callTy (k_call_tuple_of (K := K) rfl) (by rfl) T.z_tuple (by decide +kernel) (pa_cons (pe_call (ok_law_draw T) (hr.mono (by decide)) (by rfl) T.m__law_draw T.F_law_draw.kp T.b_law_draw .nil pass0 (pa_cons (pe_call (ok_law_cell T) (hr.mono (by decide)) (by rfl) T.m__law_cell T.F_law_cell.kp T.b_law_cell .nil pass0 (pa_cons (pv 0) (pa_cons pe_int pa_nil))) (pa_cons (pe_op op_rep (pe_lst (pa_cons pe_int pa_nil)) (pv 2)) pa_nil))) pa_nil)))
  (pss_cons (ps_set (i := 5) sc_law.nd rfl (Or.inr rfl) (pe_call (ok_law_some T) (hr.mono (by decide)) (by rfl) T.m__law_some T.F_law_some.kp T.b_law_some .nil pass0 (pa_cons (pe_call (ok_law_cell T) (hr.mono (by decide)) (by rfl) T.m__law_cell T.F_law_cell.kp T.b_law_cell .nil pass0 (pa_cons (pv 0) (pa_cons pe_int pa_nil))) (pa_cons (pv 2) (pa_cons (pe_callB (call_min2 rfl) (by rfl) T.z_min (by decide +kernel) (pa_cons (pv 2) (pa_cons (pe_ix (k_ix_list (K := K) rfl) (pv 1) pe_int (fun _ _ => rfl)) pa_nil))) pa_nil)))))
  (pss_cons (ps_setLc (i := 6) (own := [("k", 12)]) rfl sc_law.nd rfl rfl (sw_true rfl rfl rfl (by decide +kernel)) (pi_range1 (by rfl) T.z_range (pa_cons (pv 3) pa_nil)) (blkOk_by (own := [("k", 12)]) (N := N_law) (sc := defScope s_law) (by decide +kernel)) (fun _ _ _ _ _ => (pg_name (i := 12) sc_law.nd rfl (Or.inl rfl))) (fun _ _ _ _ _ => pts_nil) (fun _ _ _ _ _ => (pe_call (ok_law_rule T) (hr.mono (by decide)) (by rfl) T.m__law_rule T.F_law_rule.kp T.b_law_rule .nil pass0 (pa_cons (pe_call (ok_law_cell T) (hr.mono (by decide)) (by rfl) T.m__law_cell T.F_law_cell.kp T.b_law_cell .nil pass0 (pa_cons (pv 0) (pa_cons (pe_op op_add pe_int (pv 12)) pa_nil))) (pa_cons (pv 2) (pa_cons (pv 4) (pa_cons (pv 5) (pa_cons (pe_ix (k_ix_list (K := K) rfl) (pv 1) pe_int (fun _ _ => rfl)) pa_nil))))))))
  (pss_cons (ps_set (i := 7) sc_law.nd rfl (Or.inr rfl) (pe_call (ok_law_world T) (hr.mono (by decide)) (by rfl) T.m__law_world T.F_law_world.kp T.b_law_world .nil pass0 (pa_cons (pv 2) (pa_cons (pv 6) pa_nil))))
  (pss_cons (ps_set (i := 8) sc_law.nd rfl (Or.inl rfl) (pe_call (ok_law_due T) (hr.mono (by decide)) (by rfl) T.m__law_due T.F_law_due.kp T.b_law_due .nil pass0 (pa_cons (pv 4) (pa_cons (pv 6) (pa_cons (pv 5) pa_nil)))))
  (pss_cons (ps_if (pt_not (pt_val (pe_call (ok_law_told T) (hr.mono (by decide)) (by rfl) T.m__law_told T.F_law_told.kp T.b_law_told .nil pass0 (pa_cons (pv 7) (pa_cons (pv 4) (pa_cons (pv 5) (pa_cons (pv 8) pa_nil)))))))
  (pss_one (ps_ret pe_bl))
  pss_nil)
  (pss_cons (ps_set (i := 9) sc_law.nd rfl (Or.inl rfl) (pe_call (ok_law_world T) (hr.mono (by decide)) (by rfl) T.m__law_world T.F_law_world.kp T.b_law_world .nil pass0 (pa_cons (pv 2) (pa_cons (pe_slice (k_sl_list (K := K) rfl) (pv 6) po_none (po_some (pe_un un_neg pe_int))) pa_nil))))
  (pss_cons (ps_if (pt_not (pt_val (pe_call (ok_law_told T) (hr.mono (by decide)) (by rfl) T.m__law_told T.F_law_told.kp T.b_law_told .nil pass0 (pa_cons (pv 9) (pa_cons (pv 4) (pa_cons (pv 5) (pa_cons (pe_call (ok_law_due T) (hr.mono (by decide)) (by rfl) T.m__law_due T.F_law_due.kp T.b_law_due .nil pass0 (pa_cons (pv 4) (pa_cons (pe_slice (k_sl_list (K := K) rfl) (pv 6) po_none (po_some (pe_un un_neg pe_int))) (pa_cons (pv 5) pa_nil)))) pa_nil)))))))
  (pss_one (ps_ret pe_bl))
  pss_nil)
  (pss_cons (ps_if (pt_not (pt_val (pe_call (ok_law_told T) (hr.mono (by decide)) (by rfl) T.m__law_told T.F_law_told.kp T.b_law_told .nil pass0 (pa_cons (pv 7) (pa_cons (pv 4) (pa_cons (pe_slice (k_sl_list (K := K) rfl) (pv 5) (po_some pe_int) po_none) (pa_cons (pe_call (ok_law_due T) (hr.mono (by decide)) (by rfl) T.m__law_due T.F_law_due.kp T.b_law_due .nil pass0 (pa_cons (pv 4) (pa_cons (pv 6) (pa_cons (pe_slice (k_sl_list (K := K) rfl) (pv 5) (po_some pe_int) po_none) pa_nil)))) pa_nil)))))))
  (pss_one (ps_ret pe_bl))
  pss_nil)
  (pss_cons (ps_if (PW.pt (pw_or (pt_not (pt_val (pe_call (ok_law_told T) (hr.mono (by decide)) (by rfl) T.m__law_told T.F_law_told.kp T.b_law_told .nil pass0 (pa_cons (pv 7) (pa_cons (pv 4) (pa_cons (k_pe_revL (K := K) rfl (pe_revL (pv 5))) (pa_cons (pv 8) pa_nil))))))) (pw_or1 (pt_not (pt_val (pe_call (ok_law_told T) (hr.mono (by decide)) (by rfl) T.m__law_told T.F_law_told.kp T.b_law_told .nil pass0 (pa_cons (pv 7) (pa_cons (pv 4) (pa_cons (pe_lst pa_nil) (pa_cons pe_bl pa_nil))))))))))
  (pss_one (ps_ret pe_bl))
  pss_nil)
  (pss_cons (ps_set (i := 10) sc_law.nd rfl (Or.inl rfl) (pe_call (ok_law_wrong_settings T) (hr.mono (by decide)) (by rfl) T.m__law_wrong_settings T.F_law_wrong_settings.kp T.b_law_wrong_settings .nil pass0 (pa_cons (pv 4) (pa_cons (pv 6) (pa_cons (pe_op op_mod (pe_callTy call_int1 (by rfl) T.z_int (by decide +kernel) (pa_cons (pe_ix (k_ix_list (K := K) rfl) (pv 1) pe_int (fun _ _ => rfl)) pa_nil)) (pv 2)) pa_nil)))))
  (pss_cons (ps_if (pt_not (pt_val (pe_callB (k_cr_all (K := K) rfl rfl) (by rfl) T.z_all (by decide +kernel) (pa_cons (pe_lc (own := [("other", 13)]) rfl sc_law.nd (k_pi_list (K := K) rfl (pv 10)) (blkOk_by (own := [("other", 13)]) (N := N_law) (sc := defScope s_law) (by decide +kernel)) (fun _ _ _ _ _ => (pg_name (i := 13) sc_law.nd rfl (Or.inl rfl))) (fun _ _ _ _ _ => pts_nil) (fun _ _ _ _ _ => (pe_call (ok_law_refused T) (hr.mono (by decide)) (by rfl) T.m__law_refused T.F_law_refused.kp T.b_law_refused .nil pass0 (pa_cons (pv 7) (pa_cons (pv 13) (pa_cons (pv 5) (pa_cons pe_str pa_nil))))))) pa_nil))))
  (pss_one (ps_ret pe_bl))
  pss_nil)
  (pss_cons (ps_if (pt_cmpR op_eq (pe_ix (k_ix_list (K := K) rfl) (pv 1) pe_int (fun _ _ => rfl)) pe_int (nomark _))
  (pss_cons (ps_set (i := 11) sc_law.nd rfl (Or.inr rfl) (pe_call (ok_law_some T) (hr.mono (by decide)) (by rfl) T.m__law_some T.F_law_some.kp T.b_law_some .nil pass0 (pa_cons (pe_call (ok_law_cell T) (hr.mono (by decide)) (by rfl) T.m__law_cell T.F_law_cell.kp T.b_law_cell .nil pass0 (pa_cons (pv 0) (pa_cons pe_int pa_nil))) (pa_cons (pv 2) (pa_cons pe_int pa_nil)))))
  (pss_cons (ps_if (pt_not (pt_val (pe_call (ok_law_refused T) (hr.mono (by decide)) (by rfl) T.m__law_refused T.F_law_refused.kp T.b_law_refused .nil pass0 (pa_cons (pv 7) (pa_cons (pv 4) (pa_cons (pv 11) (pa_cons pe_str pa_nil)))))))
  (pss_one (ps_ret pe_bl))
  pss_nil)
  (pss_cons (ps_if (pt_not (pt_val (pe_callB (k_cr_all (K := K) rfl rfl) (by rfl) T.z_all (by decide +kernel) (pa_cons (pe_lc (own := [("other", 13)]) rfl sc_law.nd (k_pi_list (K := K) rfl (pv 10)) (blkOk_by (own := [("other", 13)]) (N := N_law) (sc := defScope s_law) (by decide +kernel)) (fun _ _ _ _ _ => (pg_name (i := 13) sc_law.nd rfl (Or.inl rfl))) (fun _ _ _ _ _ => pts_nil) (fun _ _ _ _ _ => (pe_call (ok_law_refused T) (hr.mono (by decide)) (by rfl) T.m__law_refused T.F_law_refused.kp T.b_law_refused .nil pass0 (pa_cons (pv 7) (pa_cons (pv 13) (pa_cons (pv 11) (pa_cons pe_str pa_nil))))))) pa_nil))))
  (pss_one (ps_ret pe_bl))
  pss_nil)
  (pss_one (ps_if (pt_not (pt_val (pe_call (ok_law_told T) (hr.mono (by decide)) (by rfl) T.m__law_told T.F_law_told.kp T.b_law_told .nil pass0 (pa_cons (pv 7) (pa_cons (pv 4) (pa_cons (pe_slice (k_sl_list (K := K) rfl) (pv 11) po_none (po_some pe_int)) (pa_cons (pe_call (ok_law_due T) (hr.mono (by decide)) (by rfl) T.m__law_due T.F_law_due.kp T.b_law_due .nil pass0 (pa_cons (pv 4) (pa_cons (pv 6) (pa_cons (pe_slice (k_sl_list (K := K) rfl) (pv 11) po_none (po_some pe_int)) pa_nil)))) pa_nil)))))))
  (pss_one (ps_ret pe_bl))
  pss_nil)))))
  pss_nil)
  (pss_one (ps_ret (pe_call (ok_law_told T) (hr.mono (by decide)) (by rfl) T.m__law_told T.F_law_told.kp T.b_law_told .nil pass0 (pa_cons (pv 7) (pa_cons (pv 4) (pa_cons (pv 5) (pa_cons (pv 8) pa_nil)))))))))))))))))))))))), ?_⟩)
  obtain ⟨s0, ns, rfl, sq, hn, q⟩ := h
  have rs0 : Rep K H (.ref s0) ns := rep_list sq (Reps.int_map ns)
  obtain ⟨bs, hbs⟩ : ∃ bs : List Int, bs = [4, 6, 6, 6, 7, 3, 9, 360360] := ⟨_, rfl⟩
  obtain ⟨c0, hc0⟩ : ∃ c, c = cell2 ns 0 := ⟨_, rfl⟩
  obtain ⟨d0, a0, l0, u0⟩ : ∃ x, atI (drw c0 bs) (0 : Int) = some x ∧ 0 ≤ x ∧ x < 4 := draw_at (i := 0) (by rw [hbs]; rfl) (by decide)
  obtain ⟨d1, a1, l1, u1⟩ : ∃ x, atI (drw c0 bs) (1 : Int) = some x ∧ 0 ≤ x ∧ x < 6 := draw_at (i := 1) (by rw [hbs]; rfl) (by decide)
  obtain ⟨d2, a2, l2, u2⟩ : ∃ x, atI (drw c0 bs) (2 : Int) = some x ∧ 0 ≤ x ∧ x < 6 := draw_at (i := 2) (by rw [hbs]; rfl) (by decide)
  obtain ⟨d3, a3, l3, u3⟩ : ∃ x, atI (drw c0 bs) (3 : Int) = some x ∧ 0 ≤ x ∧ x < 6 := draw_at (i := 3) (by rw [hbs]; rfl) (by decide)
  obtain ⟨d4, a4, l4, u4⟩ : ∃ x, atI (drw c0 bs) (4 : Int) = some x ∧ 0 ≤ x ∧ x < 7 := draw_at (i := 4) (by rw [hbs]; rfl) (by decide)
  obtain ⟨d5, a5, l5, u5⟩ : ∃ x, atI (drw c0 bs) (5 : Int) = some x ∧ 0 ≤ x ∧ x < 3 := draw_at (i := 5) (by rw [hbs]; rfl) (by decide)
  obtain ⟨d6, a6, l6, u6⟩ : ∃ x, atI (drw c0 bs) (6 : Int) = some x ∧ 0 ≤ x ∧ x < 9 := draw_at (i := 6) (by rw [hbs]; rfl) (by decide)
  obtain ⟨d7, a7, l7, u7⟩ : ∃ x, atI (drw c0 bs) (7 : Int) = some x ∧ 0 ≤ x ∧ x < 360360 := draw_at (i := 7) (by rw [hbs]; rfl) (by decide)
  refine q_setL (K := K) (xs := drw c0 bs) ?_ fun ps H1 hps e1 os => ?_
  · rw [hc0, hbs]
    exact el_c2 (x := cell2 ns 0) (y := [4, 6, 6, 6, 7, 3, 9, 360360]) (er_c2 (x := ns) (y := (0 : Int)) (er_var rfl rs0 (Ex.refl _)) er_int (by decide)) (EL.er (el_lst (by walk_at "ev"))) (by decide)
  clear hbs hc0
  refine q_setI (K := K) (x := 1 + d1) (by walk_at "ev") fun H2 e2 => ?_
  refine q_setI (K := K) (x := d3) (by walk_at "ev") fun H3 e3 => ?_
  have e13 : Ex H1 H3 := e2.trans e3
  obtain ⟨n1, hn1⟩ : ∃ n : Nat, (n : Int) = 1 + d1 := ⟨(1 + d1).toNat, by omega⟩
  obtain ⟨n2, hn2⟩ : ∃ n : Nat, (n : Int) = 9 + d2 := ⟨(9 + d2).toNat, by omega⟩
  obtain ⟨n3, hn3⟩ : ∃ n : Nat, (n : Int) = d3 := ⟨d3.toNat, by omega⟩
  obtain ⟨n4, hn4⟩ : ∃ n : Nat, (n : Int) = d4 := ⟨d4.toNat, by omega⟩
  obtain ⟨n6, hn6⟩ : ∃ n : Nat, (n : Int) = d6 := ⟨d6.toNat, by omega⟩
  refine q_ifJ (K := K) (b := decide (d0 = 1)) (J := fun σ' H' => ∃ n m : Nat, σ' = [some (.ref s0), some (.ref ps), some (.int n), some (.int m), none, none, none, none, none, none, none, none, none, none] ∧ 1 ≤ n ∧ n ≤ 14 ∧ m ≤ 6 ∧ (d0 = 1 → 9 ≤ n) ∧ Ex H1 H')
    ?_ (by walk_at "ev") (fun kk hb H4 e4 => ?_) (fun kk hb H4 e4 => kk _ _ ⟨n1, n3, by rw [hn1, hn3]; rfl, by omega, by omega, by omega, fun z => absurd z (of_decide_eq_false hb), e13.trans e4⟩)
  rotate_left
  · have e14 := e13.trans e4
    refine q_setI (K := K) (x := 9 + d2) (by walk_at "ev") fun H5 e5 => ?_
    have e15 := e14.trans e5
    refine s_setI (K := K) (x := d4) (by walk_at "ev") fun H6 e6 => ?_
    exact kk _ _ ⟨n2, n4, by rw [hn2, hn4]; rfl, by omega, by omega, by omega, fun _ => by omega, e15.trans e6⟩
  rintro σ' HB ⟨n, m, rfl, hn1', hn14, hm6, hd9, e1B⟩
  have eB : Ex H HB := e1.trans e1B
  have cl : ∀ {σ : L2.St} {G : Hp} {k : Int} {E : XK}, σ[0]? = some (some (.ref s0)) → Ex H G → 0 ≤ k → ER K (tCall (spCell K) [] E (tCons (tVar 0) (tCons (tC (.int k)) tNil))) σ G (cell2 ns k) := fun h e hk => er_c2 (x := ns) (er_var h rs0 e) er_int hk
  -- the setting
  refine q_set (K := K) (x := (show Tp Int from drw (cell2 ns 1) (List.replicate n 2))) (er_tuple (EL.er (el_c2 (x := cell2 ns 1) (y := List.replicate n (2 : Int)) (cl rfl eB (by decide)) (EL.er (EL.is (el_rep1 (x := (2 : Int)) (n := (n : Int)) (el_lst (ea_cons er_int ea_nil)) (er_vint rfl) (by omega) (by omega)) (by rw [Int.toNat_natCast]))) ⟨fun b hb => by rw [(List.mem_replicate.mp hb).2]; decide, by rw [List.length_replicate]; omega⟩))) fun v4 H4 e4 r4 => ?_
  generalize hs : (show Tp Int from drw (cell2 ns 1) (List.replicate n 2)) = st at r4
  have hsl : (L st).length = n := by
    rw [← hs]
    show (drw _ _).length = n
    rw [draw_len, List.length_replicate]
  have hsb : binL (L st) = true := by
    refine binL_iff.mpr fun v hv => ?_
    rw [← hs] at hv
    obtain ⟨k, hk, hkv⟩ := List.getElem_of_mem (show v ∈ drw (cell2 ns 1) (List.replicate n 2) from hv)
    have hkn : k < n := by rw [draw_len, List.length_replicate] at hk; exact hk
    obtain ⟨x, hx, h0, h2⟩ := draw_at (bs := List.replicate n (2 : Int)) (c := cell2 ns 1) (i := k) (b := 2) (by rw [List.getElem?_replicate, if_pos hkn]) (by decide)
    have : some x = some v := by rw [← hx, ← hkv]; exact Z.atI_ofN (List.getElem?_eq_getElem hk)
    cases this
    omega
  clear hs
  have hB : isB (L st) n = true := isB_iff.mpr ⟨by rw [hsl], hsb⟩
  -- the letters
  obtain ⟨m6, hm6', hm6l⟩ : ∃ k : Nat, min (n : Int) d6 = k ∧ k ≤ 8 ∧ k ≤ n := ⟨(min (n : Int) d6).toNat, by omega, by omega⟩
  have e1_4 := e1B.trans e4
  refine q_setLP (K := K) (lp_some (c := cell2 ns 2) (n := n) (m := m6) (cl rfl (eB.trans e4) (by decide)) (er_vint rfl) (ER.is (er_min2 (er_vint rfl) (er_ixL (er_own rfl os e1_4) er_int a6)) hm6') hm6l.2 (by omega)) fun p5 H5 ls hp5 e5 o5 hls => ?_
  obtain ⟨hL, hll⟩ := hls
  have eB5 := eB.trans (e4.trans e5)
  have e1_5 := e1_4.trans e5
  have r45 := r4.mono e5
  -- the rules
  refine q_setLP (K := K) (el_genR (P := GoodR n (L st)) (in_rng (K := K) (nn := (m : Int)) (er_vint rfl) (by omega) (by omega)) (g_name (i := 12) fun _ _ _ _ _ r => r) (fun k σ2 H6 hk e6 s6 => ?_) (by rw [List.length_range]; omega)) fun p6 H6 rs hp6 e6 o6 hrs => ?_
  · obtain ⟨kv, rfl, rfl⟩ := s6
    exact rf_rule (c := cell2 ns (4 + (k : Nat))) (er_c2 (x := ns) (y := 4 + ((k : Nat) : Int)) (er_var rfl rs0 (eB5.trans e6)) (er_add er_int (er_vint rfl)) (by omega)) (er_vint rfl) (er_var rfl r45 e6) (er_own rfl o5 e6) (er_ixL (er_own rfl os (e1_5.trans e6)) er_int a5) hsl hsb hn1' (by omega)
  obtain ⟨hrl, hgood⟩ := hrs
  rw [List.length_range, Int.toNat_natCast] at hrl
  have hfine : ∀ r, r ∈ rs → Fine n r := fun r hr => (hgood r hr).fine
  have r46 := r45.mono e6
  have o56 := o5.mono e6
  have hIn : In ls n := hL.2
  have hInS : In ls (List.length st) := by show In ls (L st).length; rw [hsl]; exact hIn
  have hRin : RulesIn rs n := fun r hr => ⟨(hgood r hr).ls.2, by have := (hgood r hr).l4; omega⟩
  have hRinS : RulesIn rs (List.length st) := by show RulesIn rs (L st).length; rw [hsl]; exact hRin
  have keepAll : ∀ rs' : List Ru, (∀ r, r ∈ rs' → r ∈ rs) → ans n rs' (L st) = true := fun rs' hsub => by
    unfold ans
    rw [hB, Bool.true_and]
    exact List.all_eq_true.mpr fun r hr => decide_eq_true (hgood r (hsub r hr)).own
  have hans := keepAll rs fun r hr => hr
  have sub1 : ∀ r, r ∈ rs.take (rs.length - 1) → r ∈ rs := fun r hr => List.mem_of_mem_take hr
  -- the worlds
  refine q_newW (n := n) (rs := rs) (er_vint rfl) (er_own rfl o6 (Ex.refl _)) hn14 (by omega) hfine fun w7 H7 e7 W7 => ?_
  refine q_setB (K := K) (x := due (L st) rs ls) (er_c3 (x := st) (y := rs) (z := ls) (er_var rfl r46 e7) (er_own rfl o6 e7) (er_own rfl o56 e7) ⟨hInS, hRinS, by omega, by omega⟩) fun H8 e8 => ?_
  have e68 := e7.trans e8
  have W8 := W7.mono e8
  have hany := anyO_due (rs := rs) (ls := ls) hB
  refine q_ifF (K := K) (et_not (et_test (er_told (ev_var rfl) W8 (Ex.refl _) (er_var rfl r46 e68) (er_own rfl o56 e68) (er_vbl rfl) (by omega) hIn (by omega) hans))) (by rw [hany]; simp) fun H9 e9 => ?_
  have e69 := e68.trans e9
  have less : ∀ {σ : L2.St} {G : Hp}, σ[6]? = some (some (.ref p6)) → Ex H6 G → ER K (tSl (rSlL K) (tVar 6) tNoPart (tPart (tUn (rU fun i => .int (-i)) (tC (.int 1))))) σ G (rs.take (rs.length - 1)) := fun h e => EL.er (EL.is (el_sl (er_own h o6 e) eo_none (eo_some (er_neg er_int))) cut_m1)
  have lessl : (rs.take (rs.length - 1)).length ≤ rs.length := by rw [List.length_take]; omega
  refine q_newW (n := n) (rs := rs.take (rs.length - 1)) (er_vint rfl) (less rfl e69) hn14 (by omega) (fun r hr => hfine r (sub1 r hr)) fun w10 H10 e10 W10 => ?_
  have e610 := e69.trans e10
  refine q_ifF (K := K) (et_not (et_test (er_told (b := due (L st) (rs.take (rs.length - 1)) ls) (ev_var rfl) W10 (Ex.refl _) (er_var rfl r46 e610) (er_own rfl o56 e610) (er_c3 (x := st) (y := rs.take (rs.length - 1)) (z := ls) (er_var rfl r46 e610) (less rfl e610) (er_own rfl o56 e610) ⟨hInS, fun r hr => hRinS r (sub1 r hr), by omega, by omega⟩) (by omega) hIn (by omega) (keepAll _ sub1)))) (by rw [anyO_due hB]; simp) fun H11 e11 => ?_
  have e611 := e610.trans e11
  have W11 := W7.mono (e8.trans (e9.trans (e10.trans e11)))
  -- letters[1:]
  have rest : ∀ {σ : L2.St} {G : Hp}, σ[5]? = some (some (.ref p5)) → Ex H6 G → ER K (tSl (rSlL K) (tVar 5) (tPart (tC (.int 1))) tNoPart) σ G (cutD ls (some 1) none) := fun h e => EL.er (el_sl (er_own h o56 e) (eo_some er_int) eo_none)
  have hcs : (cutD ls (some 1) none).Sublist ls := by
    unfold cutD
    exact (List.take_sublist _ _).trans (List.drop_sublist _ _)
  have hcl := hcs.length_le
  have hcIn : In (cutD ls (some 1) none) n := fun l hl => hIn l (hcs.subset hl)
  refine q_ifF (K := K) (et_not (et_test (er_told (b := due (L st) rs (cutD ls (some 1) none)) (ev_var rfl) W11 (Ex.refl _) (er_var rfl r46 e611) (rest rfl e611) (er_c3 (x := st) (y := rs) (z := cutD ls (some 1) none) (er_var rfl r46 e611) (er_own rfl o6 e611) (rest rfl e611) ⟨fun l hl => hInS l (hcs.subset hl), hRinS, by omega, by omega⟩) (by omega) hcIn (by omega) hans))) (by rw [anyO_due hB]; simp) fun H12 e12 => ?_
  have e612 := e611.trans e12
  have W12 := W11.mono e12
  -- letters[::-1], []
  refine q_ifF (K := K) (et_orU (et_not (et_test (er_told (ls := ls.reverse) (b := due (L st) rs ls) (ev_var rfl) W12 (Ex.refl _) (er_var rfl r46 e612) (EL.er (el_rev (er_own rfl o56 e612))) (er_vbl rfl) (by omega) (fun l hl => hIn l (List.mem_reverse.mp hl)) (by rw [List.length_reverse]; omega) hans))) (et_not (et_test (er_told (ls := ([] : List Int)) (b := true) (ev_var rfl) W12 (Ex.refl _) (er_var rfl r46 e612) (EL.er (el_lst ea_nil)) er_bl (by omega) (fun l hl => absurd hl List.not_mem_nil) (by show 0 ≤ 8; decide) hans)))) (by rw [anyO_due hB, due_rev, anyO_nil hans]; simp) fun H13 e13' => ?_
  have e613 := e612.trans e13'
  have W13 := W12.mono e13'
  -- wrong settings
  obtain ⟨i7, hi7, hi7n⟩ : ∃ i : Nat, d7 % (n : Int) = i ∧ i < n := ⟨(d7 % (n : Int)).toNat, by
    have := Int.emod_nonneg d7 (show (n : Int) ≠ 0 by omega)
    omega, by
    have := Int.emod_lt_of_pos d7 (show (0 : Int) < n by omega)
    have := Int.emod_nonneg d7 (show (n : Int) ≠ 0 by omega)
    omega⟩
  have e1_13 := (e1_5.trans e6).trans e613
  refine q_setLP (K := K) (lp_wrong (n := n) (i := i7) (er_var rfl r46 e613) (er_own rfl o6 e613) (ER.is (er_mod (er_int1 (er_ixL (er_own rfl os e1_13) er_int a7)) (er_vint rfl) (by omega)) hi7) hsl hi7n (by omega) hRin (by omega)) fun p10 H14 ws hp10 e14 o14 hws => ?_
  obtain ⟨hbad, hwl⟩ := hws
  have e614 := e613.trans e14
  have W14 := W13.mono e14
  have refAll : ∀ {G : Hp} {σ : L2.St} {j : Nat} {p : Addr} {ms : List Int}, Ex H14 G → (∀ v : Option V, ((wipe σ [13]).set 13 v)[7]? = some (some (.ref w7))) → (∀ v : Option V, ((wipe σ [13]).set 13 v)[j]? = some (some (.ref p))) → (∀ v : V, ((wipe σ [13]).set 13 (some v))[13]? = some (some v)) → σ[10]? = some (some (.ref p10)) → Z.Own K G p ms → In ms n → ms.length ≤ 1000 →
      ER K (tCB (rAll K) (tCons (tLc (iList K (tVar 10)) (gName 13) tYes (tCall (spRef K a.C_Rules a.C_Kind) [] E0 (tCons (tVar 7) (tCons (tVar 13) (tCons (tVar j) (tCons (tC (.str "setting")) tNil))))) [13]) tNil)) σ G true := fun {G σ j p ms} eG h7 hj h13 h10 om hm hml => by
    refine ER.is (er_all (EL.er (el_genA (β := Bool) (xs := ws) (f := fun _ => true) (in_list (er_own h10 o14 eG)) (g_name (i := 13) gr_rep) (fun z σ2 H15 hz e15 s15 => ?_) (by omega)))) (by simp)
    obtain ⟨zv, rfl, rz⟩ := s15
    have hz' := hbad z hz
    exact er_refd (ev_var (h7 _)) W14 (eG.trans e15) (er_var (h13 _) rz (Ex.refl _)) (er_own (hj _) om e15) er_str (by omega) hm hml (.inl ⟨rfl, hz'.1⟩)
  refine q_ifF (K := K) (et_not (et_test (refAll (p := p5) (ms := ls) (Ex.refl _) (fun _ => rfl) (fun _ => rfl) (fun _ => rfl) rfl (o56.mono e614) hIn (by omega)))) rfl fun H15 e15 => ?_
  have e615 := e614.trans e15
  have e1_15 := (e1_5.trans e6).trans e615
  refine q_ifJ (K := K) (b := decide (d0 = 1)) (J := fun σ' H' => σ'[7]? = some (some (.ref w7)) ∧ σ'[4]? = some (some v4) ∧ σ'[5]? = some (some (.ref p5)) ∧ σ'[8]? = some (some (.bl (due (L st) rs ls))) ∧ Ex H15 H')
    ?_ (et_test (er_eqI (er_ixL (er_own rfl os e1_15) er_int a0) er_int)) (fun kk hb H16 e16 => ?_) (fun kk hb H16 e16 => kk _ _ ⟨rfl, rfl, rfl, rfl, e16⟩)
  rotate_left
  · have hb := of_decide_eq_true hb
    have h9n := hd9 hb
    have e616 := e615.trans e16
    refine q_setLP (K := K) (lp_some (c := cell2 ns 3) (n := n) (m := 9) (cl rfl ((eB5.trans e6).trans e616) (by decide)) (er_vint rfl) (er_int (n := 9)) h9n (by omega)) fun p11 H17 ms hp11 e17 o17 hms => ?_
    obtain ⟨hM, hml⟩ := hms
    have e617 := e616.trans e17
    have W17 := W14.mono (e15.trans (e16.trans e17))
    have hMn : In ms n := hM.2
    refine q_ifF (K := K) (et_not (et_test (er_refd (ev_var rfl) W17 (Ex.refl _) (er_var rfl r46 e617) (er_own rfl o17 (Ex.refl _)) er_str (by omega) hMn (by omega) (.inr ⟨rfl, hans, by omega⟩)))) rfl fun H18 e18 => ?_
    refine q_ifF (K := K) (et_not (et_test (refAll (p := p11) (ms := ms) (e15.trans (e16.trans (e17.trans e18))) (fun _ => rfl) (fun _ => rfl) (fun _ => rfl) rfl (o17.mono e18) hMn (by omega)))) rfl fun H19 e19 => ?_
    have e619 := e617.trans (e18.trans e19)
    have e79 := e18.trans e19
    have c8 : cutD ms none (some (8 : Int)) = ms.take 8 := cut_take (xs := ms) (k := 8) (by omega)
    have first8 : ∀ {σ : L2.St} {G : Hp}, σ[11]? = some (some (.ref p11)) → Ex H17 G → ER K (tSl (rSlL K) (tVar 11) tNoPart (tPart (tC (.int 8)))) σ G (ms.take 8) := fun h e => EL.er (EL.is (el_sl (er_own h o17 e) eo_none (eo_some er_int)) c8)
    have h8 : (ms.take 8).length = 8 := by rw [List.length_take]; omega
    have h8In : In (ms.take 8) n := fun l hl => hMn l (List.mem_of_mem_take hl)
    refine s_ifF (K := K) (et_not (et_test (er_told (b := due (L st) rs (ms.take 8)) (ev_var rfl) (W17.mono e79) (Ex.refl _) (er_var rfl r46 e619) (first8 rfl e79) (er_c3 (x := st) (y := rs) (z := ms.take 8) (er_var rfl r46 e619) (er_own rfl o6 e619) (first8 rfl e79) ⟨by show In _ (L st).length; rw [hsl]; exact h8In, hRinS, by omega, by omega⟩) (by omega) h8In (by omega) hans))) (by rw [anyO_due hB]; simp) fun H20 e20 => ?_
    exact kk _ _ ⟨rfl, rfl, rfl, rfl, e16.trans (e17.trans (e79.trans e20))⟩
  rintro σ' H16 ⟨h7, h4, h5, h8, e16⟩
  have e616 := e615.trans e16
  refine s_ret (K := K) (x := true) (ER.is (er_told (ev_var h7) (W14.mono (e15.trans e16)) (Ex.refl _) (er_var h4 r46 e616) (er_own h5 o56 e616) (er_vbl h8) (by omega) hIn (by omega) hans) (by rw [hany]; simp)) fun v H17 e17 r17 => ?_
  rw [Rep.bool r17]
  exact q H17
end
set_option Elab.async false
set_option linter.all false
set_option maxRecDepth 100000
open PySem L2 Z
theorem fin {P : Program} {w : World} {K : PySem.W.Frag} {mg : Str → Option Value} {fa : Addr} (k : Nat) (law : ∀ {base : Heap} {a : Ad}, Txt P K mg a → FnOk P w K mg base CX0 k a.f_law a.d_law ["script"] (spLaw K)) (hfa : mg "law" = some (.ref fa)) (T : ∃ a, Txt P K mg a) :
    ∃ fd : FuncData, (∀ (s : Shared) (v : Value), BindsTo s fd ⟨[v], []⟩ [("script", v)]) ∧ ∀ base : Heap, K.In base → base.Ns mainGlobals mg → FnOk P w K mg base CX0 k fa fd ["script"] (spLaw K) := by
  obtain ⟨a, T⟩ := T
  have e := hfa.symm.trans T.m_law
  cases e
  obtain ⟨oc, od, kV, doc, pm, an, cdv, ct, osl, e, _, _⟩ := T.F_law.ex
  exact ⟨a.d_law, fun s v => by rw [e]; exact .of_eq rfl, fun base _ _ => law T⟩
end Y
open PySem PySem.W PyProof.Rows in
set_option maxRecDepth 100000 in
set_option maxHeartbeats 0 in
theorem PySem.Challenge.cw_everystepstands_k93_any_order_of_letters_holds : PySem.Challenge.rw_everystepstands_k93_any_order_of_letters.Holds := by
  w_on; o_law; k_head; (case hw => w_witness2)
  k_fill
  refine Z.walk (k := 7) (l := PySem.Challenge.rw_everystepstands_k93_any_order_of_letters) rfl (by decide) (by decide) rfl (fun w h Y => PySem.W.kIn_of Y) ?F
  case F =>
    intro w mg fa h KX G hmg
    refine' Y.fin 7 (fun T => Y.ok_law T) hmg ⟨_, Y.all_mk KX G ?z_ValueError ?z_all ?z_bool ?z_enumerate ?z_int ?z_isinstance ?z_len ?z_list ?z_min ?z_range ?z_set ?z_sorted ?z_super ?z_tuple ?z_zip ?m_MOST_AT_ONCE ?m_MOST_WIDTH ?m_StepError ?hg_StepError ?hk_StepError ?hs_StepError ?hd_StepError ?ha_StepError ?hm_StepError ?m_BadKind ?hg_BadKind ?hk_BadKind ?hs_BadKind ?hd_BadKind ?ha_BadKind ?hm_BadKind ?x_BadKindw_initw ?rv_BadKindw_initw ?i_BadKindw_initw ?l_BadKindw_initw ?cd_BadKindw_initw ?kc_BadKindw_initw ?kv_BadKindw_initw ?kf_BadKindw_initw ?cc_BadKindw_initw ?kp_BadKindw_initw ?ti_BadKindw_initw ?ic_BadKindw_initw ?sa_BadKindw_initw ?ty_BadKindw_initw ?ke_BadKindw_initw ?su_BadKindw_initw ?ve_BadKindw_initw ?mr_BadKindw_initw ?nf_BadKind_index ?m_BadRule ?hg_BadRule ?hk_BadRule ?hs_BadRule ?hd_BadRule ?ha_BadRule ?hm_BadRule ?x_BadRulew_initw ?rv_BadRulew_initw ?i_BadRulew_initw ?l_BadRulew_initw ?cd_BadRulew_initw ?kc_BadRulew_initw ?kv_BadRulew_initw ?kf_BadRulew_initw ?cc_BadRulew_initw ?kp_BadRulew_initw ?ti_BadRulew_initw ?ic_BadRulew_initw ?sa_BadRulew_initw ?ty_BadRulew_initw ?ke_BadRulew_initw ?su_BadRulew_initw ?ve_BadRulew_initw ?mr_BadRulew_initw ?nf_BadRule_index ?m_NotAnAnswer ?hg_NotAnAnswer ?hk_NotAnAnswer ?hs_NotAnAnswer ?hd_NotAnAnswer ?ha_NotAnAnswer ?hm_NotAnAnswer ?x_NotAnAnswerw_initw ?rv_NotAnAnswerw_initw ?i_NotAnAnswerw_initw ?l_NotAnAnswerw_initw ?cd_NotAnAnswerw_initw ?kc_NotAnAnswerw_initw ?kv_NotAnAnswerw_initw ?kf_NotAnAnswerw_initw ?cc_NotAnAnswerw_initw ?kp_NotAnAnswerw_initw ?ti_NotAnAnswerw_initw ?ic_NotAnAnswerw_initw ?sa_NotAnAnswerw_initw ?ty_NotAnAnswerw_initw ?ke_NotAnAnswerw_initw ?su_NotAnAnswerw_initw ?ve_NotAnAnswerw_initw ?mr_NotAnAnswerw_initw ?nf_NotAnAnswer_setting ?m_TooMany ?hg_TooMany ?hk_TooMany ?hs_TooMany ?hd_TooMany ?ha_TooMany ?hm_TooMany ?x_TooManyw_initw ?rv_TooManyw_initw ?i_TooManyw_initw ?l_TooManyw_initw ?cd_TooManyw_initw ?kc_TooManyw_initw ?kv_TooManyw_initw ?kf_TooManyw_initw ?cc_TooManyw_initw ?kp_TooManyw_initw ?ti_TooManyw_initw ?ic_TooManyw_initw ?sa_TooManyw_initw ?ty_TooManyw_initw ?ke_TooManyw_initw ?su_TooManyw_initw ?ve_TooManyw_initw ?mr_TooManyw_initw ?nf_TooMany_limit ?m_World ?pg_World ?hd_World ?po_World ?sa_World ?ha_World ?hm_World ?na_World_size ?m_Kind ?pg_Kind ?hd_Kind ?po_Kind ?sa_Kind ?ha_Kind ?hm_Kind ?na_Kind_name ?na_Kind_width ?na_Kind_tuples ?na_Kind_grouped ?m_Rules ?pg_Rules ?hd_Rules ?po_Rules ?sa_Rules ?ha_Rules ?hm_Rules ?na_Rules_rules ?na_Rules_on_letter ?na_Rules_size ?m_is_binary ?l_is_binary ?c_is_binary ?k_is_binary ?m_flipped ?l_flipped ?c_flipped ?k_flipped ?m_all_binary ?l_all_binary ?c_all_binary ?k_all_binary ?m_is_name ?l_is_name ?c_is_name ?k_is_name ?me_Worldw_initw ?l_Worldw_initw ?c_Worldw_initw ?k_Worldw_initw ?fn_Worldw_initw ?mk_World ?kc_World ?me_World_is_answer ?l_World_is_answer ?c_World_is_answer ?k_World_is_answer ?fn_World_is_answer ?m_check_answer ?l_check_answer ?c_check_answer ?k_check_answer ?m_any_order ?l_any_order ?c_any_order ?k_any_order ?me_Kindw_initw ?l_Kindw_initw ?c_Kindw_initw ?k_Kindw_initw ?fn_Kindw_initw ?mk_Kind ?kc_Kind ?me_Kindw_containsw ?l_Kindw_containsw ?c_Kindw_containsw ?k_Kindw_containsw ?fn_Kindw_containsw ?me_Kindw_andw ?l_Kindw_andw ?c_Kindw_andw ?k_Kindw_andw ?fn_Kindw_andw ?sf_Kind ?me_Kindw_orw ?l_Kindw_orw ?c_Kindw_orw ?k_Kindw_orw ?fn_Kindw_orw ?me_Kindw_invertw ?l_Kindw_invertw ?c_Kindw_invertw ?k_Kindw_invertw ?fn_Kindw_invertw ?me_Kind_named ?l_Kind_named ?c_Kind_named ?k_Kind_named ?fn_Kind_named ?m_check_width ?l_check_width ?c_check_width ?k_check_width ?m_piece_around ?l_piece_around ?c_piece_around ?k_piece_around ?m_grouped_by_piece ?l_grouped_by_piece ?c_grouped_by_piece ?k_grouped_by_piece ?me_Rulesw_initw ?fn_Rulesw_initw ?mk_Rules ?kc_Rules ?l_Rulesw_initw ?cd_Rulesw_initw ?kd_Rulesw_initw ?kv_Rulesw_initw ?kf_Rulesw_initw ?cc_Rulesw_initw ?kp_Rulesw_initw ?ic_Rulesw_initw ?su_Rulesw_initw ?tb_Rulesw_initw ?mr_Rulesw_initw ?fi_Rulesw_initw ?me_Rules_is_answer ?l_Rules_is_answer ?c_Rules_is_answer ?k_Rules_is_answer ?fn_Rules_is_answer ?me_Rules_at_rule ?l_Rules_at_rule ?c_Rules_at_rule ?k_Rules_at_rule ?fn_Rules_at_rule ?me_Rules_broken ?l_Rules_broken ?c_Rules_broken ?k_Rules_broken ?fn_Rules_broken ?m_are_letters ?l_are_letters ?c_are_letters ?k_are_letters ?m__law_cell ?l_law_cell ?c_law_cell ?k_law_cell ?m__law_draw ?l_law_draw ?c_law_draw ?k_law_draw ?m__law_tuples ?l_law_tuples ?c_law_tuples ?k_law_tuples ?m__law_picked ?l_law_picked ?c_law_picked ?k_law_picked ?m__law_some ?l_law_some ?c_law_some ?k_law_some ?m__law_values ?l_law_values ?c_law_values ?k_law_values ?m__law_shown ?l_law_shown ?c_law_shown ?k_law_shown ?m__law_rule ?l_law_rule ?c_law_rule ?k_law_rule ?m__law_keeps ?l_law_keeps ?c_law_keeps ?k_law_keeps ?m__law_due ?l_law_due ?c_law_due ?k_law_due ?m__law_world ?l_law_world ?c_law_world ?k_law_world ?m__law_told ?l_law_told ?c_law_told ?k_law_told ?m__law_refused ?l_law_refused ?c_law_refused ?k_law_refused ?m__law_wrong_settings ?l_law_wrong_settings ?c_law_wrong_settings ?k_law_wrong_settings ?m_law ?l_law ?c_law ?k_law ?cr1_Rules ?cr2_Rules ?cv_Rules_MOST_LETTERS ?cv_Rules_MOST_RULES ?hcn ?hct ?hop ?htop ?kit_NotAnAnswer_TooMany ?kit_NotAnAnswer_StepError ?kit_NotAnAnswer_ValueError ?kit_TooMany_StepError ?kit_TooMany_ValueError ?exm_NotAnAnswer_NotAnAnswer ?exm_TooMany_NotAnAnswer ?exm_TooMany_TooMany⟩
    (case z_ValueError => k_is)
    (case z_all => k_is)
    (case z_bool => k_is)
    (case z_enumerate => k_is)
    (case z_int => k_is)
    (case z_isinstance => k_is)
    (case z_len => k_is)
    (case z_list => k_is)
    (case z_min => k_is)
    (case z_range => k_is)
    (case z_set => k_is)
    (case z_sorted => k_is)
    (case z_super => k_is)
    (case z_tuple => k_is)
    (case z_zip => k_is)
    (case m_MOST_AT_ONCE => k_is)
    (case m_MOST_WIDTH => k_is)
    (case m_StepError => k_is)
    (case hg_StepError => k_is)
    (case hk_StepError => k_is)
    (case hs_StepError => k_is)
    (case hd_StepError => k_is)
    (case ha_StepError => k_is)
    (case hm_StepError => k_is)
    (case m_BadKind => k_is)
    (case hg_BadKind => k_is)
    (case hk_BadKind => k_is)
    (case hs_BadKind => k_is)
    (case hd_BadKind => k_is)
    (case ha_BadKind => k_is)
    (case hm_BadKind => k_is)
    (case x_BadKindw_initw => k_is)
    (case rv_BadKindw_initw => kernel_rfl)
    (case i_BadKindw_initw => k_is)
    (case l_BadKindw_initw => k_is)
    (case cd_BadKindw_initw => k_is)
    (case kc_BadKindw_initw => k_is)
    (case kv_BadKindw_initw => rfl)
    (case kf_BadKindw_initw => decide +kernel)
    (case cc_BadKindw_initw => k_is)
    (case kp_BadKindw_initw => k_is)
    (case ti_BadKindw_initw => k_is)
    (case ic_BadKindw_initw => k_is)
    (case sa_BadKindw_initw => k_is)
    (case ty_BadKindw_initw => k_is)
    (case ke_BadKindw_initw => k_is)
    (case su_BadKindw_initw => kernel_rfl)
    (case ve_BadKindw_initw => k_is)
    (case mr_BadKindw_initw => k_is)
    (case nf_BadKind_index => k_is)
    (case m_BadRule => k_is)
    (case hg_BadRule => k_is)
    (case hk_BadRule => k_is)
    (case hs_BadRule => k_is)
    (case hd_BadRule => k_is)
    (case ha_BadRule => k_is)
    (case hm_BadRule => k_is)
    (case x_BadRulew_initw => k_is)
    (case rv_BadRulew_initw => kernel_rfl)
    (case i_BadRulew_initw => k_is)
    (case l_BadRulew_initw => k_is)
    (case cd_BadRulew_initw => k_is)
    (case kc_BadRulew_initw => k_is)
    (case kv_BadRulew_initw => rfl)
    (case kf_BadRulew_initw => decide +kernel)
    (case cc_BadRulew_initw => k_is)
    (case kp_BadRulew_initw => k_is)
    (case ti_BadRulew_initw => k_is)
    (case ic_BadRulew_initw => k_is)
    (case sa_BadRulew_initw => k_is)
    (case ty_BadRulew_initw => k_is)
    (case ke_BadRulew_initw => k_is)
    (case su_BadRulew_initw => kernel_rfl)
    (case ve_BadRulew_initw => k_is)
    (case mr_BadRulew_initw => k_is)
    (case nf_BadRule_index => k_is)
    (case m_NotAnAnswer => k_is)
    (case hg_NotAnAnswer => k_is)
    (case hk_NotAnAnswer => k_is)
    (case hs_NotAnAnswer => k_is)
    (case hd_NotAnAnswer => k_is)
    (case ha_NotAnAnswer => k_is)
    (case hm_NotAnAnswer => k_is)
    (case x_NotAnAnswerw_initw => k_is)
    (case rv_NotAnAnswerw_initw => kernel_rfl)
    (case i_NotAnAnswerw_initw => k_is)
    (case l_NotAnAnswerw_initw => k_is)
    (case cd_NotAnAnswerw_initw => k_is)
    (case kc_NotAnAnswerw_initw => k_is)
    (case kv_NotAnAnswerw_initw => rfl)
    (case kf_NotAnAnswerw_initw => decide +kernel)
    (case cc_NotAnAnswerw_initw => k_is)
    (case kp_NotAnAnswerw_initw => k_is)
    (case ti_NotAnAnswerw_initw => k_is)
    (case ic_NotAnAnswerw_initw => k_is)
    (case sa_NotAnAnswerw_initw => k_is)
    (case ty_NotAnAnswerw_initw => k_is)
    (case ke_NotAnAnswerw_initw => k_is)
    (case su_NotAnAnswerw_initw => kernel_rfl)
    (case ve_NotAnAnswerw_initw => k_is)
    (case mr_NotAnAnswerw_initw => k_is)
    (case nf_NotAnAnswer_setting => k_is)
    (case m_TooMany => k_is)
    (case hg_TooMany => k_is)
    (case hk_TooMany => k_is)
    (case hs_TooMany => k_is)
    (case hd_TooMany => k_is)
    (case ha_TooMany => k_is)
    (case hm_TooMany => k_is)
    (case x_TooManyw_initw => k_is)
    (case rv_TooManyw_initw => kernel_rfl)
    (case i_TooManyw_initw => k_is)
    (case l_TooManyw_initw => k_is)
    (case cd_TooManyw_initw => k_is)
    (case kc_TooManyw_initw => k_is)
    (case kv_TooManyw_initw => rfl)
    (case kf_TooManyw_initw => decide +kernel)
    (case cc_TooManyw_initw => k_is)
    (case kp_TooManyw_initw => k_is)
    (case ti_TooManyw_initw => k_is)
    (case ic_TooManyw_initw => k_is)
    (case sa_TooManyw_initw => k_is)
    (case ty_TooManyw_initw => k_is)
    (case ke_TooManyw_initw => k_is)
    (case su_TooManyw_initw => kernel_rfl)
    (case ve_TooManyw_initw => k_is)
    (case mr_TooManyw_initw => k_is)
    (case nf_TooMany_limit => k_is)
    (case m_World => k_is)
    (case pg_World => k_is)
    (case hd_World => k_is)
    (case po_World => k_is)
    (case sa_World => k_is)
    (case ha_World => k_is)
    (case hm_World => k_is)
    (case na_World_size => k_is)
    (case m_Kind => k_is)
    (case pg_Kind => k_is)
    (case hd_Kind => k_is)
    (case po_Kind => k_is)
    (case sa_Kind => k_is)
    (case ha_Kind => k_is)
    (case hm_Kind => k_is)
    (case na_Kind_name => k_is)
    (case na_Kind_width => k_is)
    (case na_Kind_tuples => k_is)
    (case na_Kind_grouped => k_is)
    (case m_Rules => k_is)
    (case pg_Rules => k_is)
    (case hd_Rules => k_is)
    (case po_Rules => k_is)
    (case sa_Rules => k_is)
    (case ha_Rules => k_is)
    (case hm_Rules => k_is)
    (case na_Rules_rules => k_is)
    (case na_Rules_on_letter => k_is)
    (case na_Rules_size => k_is)
    (case m_is_binary => k_is)
    (case l_is_binary => k_is)
    (case c_is_binary => k_is)
    (case k_is_binary => k_is)
    (case m_flipped => k_is)
    (case l_flipped => k_is)
    (case c_flipped => k_is)
    (case k_flipped => k_is)
    (case m_all_binary => k_is)
    (case l_all_binary => k_is)
    (case c_all_binary => k_is)
    (case k_all_binary => k_is)
    (case m_is_name => k_is)
    (case l_is_name => k_is)
    (case c_is_name => k_is)
    (case k_is_name => k_is)
    (case me_Worldw_initw => k_is)
    (case l_Worldw_initw => k_is)
    (case c_Worldw_initw => k_is)
    (case k_Worldw_initw => k_is)
    (case fn_Worldw_initw => k_is)
    (case mk_World => k_is)
    (case kc_World => k_is)
    (case me_World_is_answer => k_is)
    (case l_World_is_answer => k_is)
    (case c_World_is_answer => k_is)
    (case k_World_is_answer => k_is)
    (case fn_World_is_answer => k_is)
    (case m_check_answer => k_is)
    (case l_check_answer => k_is)
    (case c_check_answer => k_is)
    (case k_check_answer => k_is)
    (case m_any_order => k_is)
    (case l_any_order => k_is)
    (case c_any_order => k_is)
    (case k_any_order => k_is)
    (case me_Kindw_initw => k_is)
    (case l_Kindw_initw => k_is)
    (case c_Kindw_initw => k_is)
    (case k_Kindw_initw => k_is)
    (case fn_Kindw_initw => k_is)
    (case mk_Kind => k_is)
    (case kc_Kind => k_is)
    (case me_Kindw_containsw => k_is)
    (case l_Kindw_containsw => k_is)
    (case c_Kindw_containsw => k_is)
    (case k_Kindw_containsw => k_is)
    (case fn_Kindw_containsw => k_is)
    (case me_Kindw_andw => k_is)
    (case l_Kindw_andw => k_is)
    (case c_Kindw_andw => k_is)
    (case k_Kindw_andw => k_is)
    (case fn_Kindw_andw => k_is)
    (case sf_Kind => k_is)
    (case me_Kindw_orw => k_is)
    (case l_Kindw_orw => k_is)
    (case c_Kindw_orw => k_is)
    (case k_Kindw_orw => k_is)
    (case fn_Kindw_orw => k_is)
    (case me_Kindw_invertw => k_is)
    (case l_Kindw_invertw => k_is)
    (case c_Kindw_invertw => k_is)
    (case k_Kindw_invertw => k_is)
    (case fn_Kindw_invertw => k_is)
    (case me_Kind_named => k_is)
    (case l_Kind_named => k_is)
    (case c_Kind_named => k_is)
    (case k_Kind_named => k_is)
    (case fn_Kind_named => k_is)
    (case m_check_width => k_is)
    (case l_check_width => k_is)
    (case c_check_width => k_is)
    (case k_check_width => k_is)
    (case m_piece_around => k_is)
    (case l_piece_around => k_is)
    (case c_piece_around => k_is)
    (case k_piece_around => k_is)
    (case m_grouped_by_piece => k_is)
    (case l_grouped_by_piece => k_is)
    (case c_grouped_by_piece => k_is)
    (case k_grouped_by_piece => k_is)
    (case me_Rulesw_initw => k_is)
    (case fn_Rulesw_initw => k_is)
    (case mk_Rules => k_is)
    (case kc_Rules => k_is)
    (case l_Rulesw_initw => k_is)
    (case cd_Rulesw_initw => k_is)
    (case kd_Rulesw_initw => k_is)
    (case kv_Rulesw_initw => rfl)
    (case kf_Rulesw_initw => decide +kernel)
    (case cc_Rulesw_initw => k_is)
    (case kp_Rulesw_initw => k_is)
    (case ic_Rulesw_initw => k_is)
    (case su_Rulesw_initw => kernel_rfl)
    (case tb_Rulesw_initw => k_is)
    (case mr_Rulesw_initw => k_is)
    (case fi_Rulesw_initw => k_is)
    (case me_Rules_is_answer => k_is)
    (case l_Rules_is_answer => k_is)
    (case c_Rules_is_answer => k_is)
    (case k_Rules_is_answer => k_is)
    (case fn_Rules_is_answer => k_is)
    (case me_Rules_at_rule => k_is)
    (case l_Rules_at_rule => k_is)
    (case c_Rules_at_rule => k_is)
    (case k_Rules_at_rule => k_is)
    (case fn_Rules_at_rule => k_is)
    (case me_Rules_broken => k_is)
    (case l_Rules_broken => k_is)
    (case c_Rules_broken => k_is)
    (case k_Rules_broken => k_is)
    (case fn_Rules_broken => k_is)
    (case m_are_letters => k_is)
    (case l_are_letters => k_is)
    (case c_are_letters => k_is)
    (case k_are_letters => k_is)
    (case m__law_cell => k_is)
    (case l_law_cell => k_is)
    (case c_law_cell => k_is)
    (case k_law_cell => k_is)
    (case m__law_draw => k_is)
    (case l_law_draw => k_is)
    (case c_law_draw => k_is)
    (case k_law_draw => k_is)
    (case m__law_tuples => k_is)
    (case l_law_tuples => k_is)
    (case c_law_tuples => k_is)
    (case k_law_tuples => k_is)
    (case m__law_picked => k_is)
    (case l_law_picked => k_is)
    (case c_law_picked => k_is)
    (case k_law_picked => k_is)
    (case m__law_some => k_is)
    (case l_law_some => k_is)
    (case c_law_some => k_is)
    (case k_law_some => k_is)
    (case m__law_values => k_is)
    (case l_law_values => k_is)
    (case c_law_values => k_is)
    (case k_law_values => k_is)
    (case m__law_shown => k_is)
    (case l_law_shown => k_is)
    (case c_law_shown => k_is)
    (case k_law_shown => k_is)
    (case m__law_rule => k_is)
    (case l_law_rule => k_is)
    (case c_law_rule => k_is)
    (case k_law_rule => k_is)
    (case m__law_keeps => k_is)
    (case l_law_keeps => k_is)
    (case c_law_keeps => k_is)
    (case k_law_keeps => k_is)
    (case m__law_due => k_is)
    (case l_law_due => k_is)
    (case c_law_due => k_is)
    (case k_law_due => k_is)
    (case m__law_world => k_is)
    (case l_law_world => k_is)
    (case c_law_world => k_is)
    (case k_law_world => k_is)
    (case m__law_told => k_is)
    (case l_law_told => k_is)
    (case c_law_told => k_is)
    (case k_law_told => k_is)
    (case m__law_refused => k_is)
    (case l_law_refused => k_is)
    (case c_law_refused => k_is)
    (case k_law_refused => k_is)
    (case m__law_wrong_settings => k_is)
    (case l_law_wrong_settings => k_is)
    (case c_law_wrong_settings => k_is)
    (case k_law_wrong_settings => k_is)
    (case m_law => k_is)
    (case l_law => k_is)
    (case c_law => k_is)
    (case k_law => k_is)
    (case cr1_Rules => k_is)
    (case cr2_Rules => k_is)
    (case cv_Rules_MOST_LETTERS => k_is)
    (case cv_Rules_MOST_RULES => k_is)
    (case hcn => k_is)
    (case hct => k_is)
    (case hop => k_is)
    (case htop => decide +kernel)
    (case kit_NotAnAnswer_TooMany => kernel_rfl)
    (case kit_NotAnAnswer_StepError => kernel_rfl)
    (case kit_NotAnAnswer_ValueError => kernel_rfl)
    (case kit_TooMany_StepError => kernel_rfl)
    (case kit_TooMany_ValueError => kernel_rfl)
    (case exm_NotAnAnswer_NotAnAnswer => kernel_rfl)
    (case exm_TooMany_NotAnAnswer => kernel_rfl)
    (case exm_TooMany_TooMany => kernel_rfl)

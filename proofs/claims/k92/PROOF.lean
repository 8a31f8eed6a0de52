import PyProof.Rows.All
import Wide.All
import OpenK.AllK
import Wide.FinOn
import HandS.ForMost
import HandS.Evl
import HandS.TupAny
import HandS.Style
import HandS.Base
import HandS.Call
import HandS.Exc
import HandS.ExcOwn
import HandS.IsInst
import HandS.Property
import HandS.ForExc
import HandS.ExcInit
import HandS.ExcField
import HandS.ExcIs
import KE.KExcSuper
import KE.KSuper
import HandS.IterNext
import KE.KExcIs
import KE.KOwnIter
import OpenK.KMeth
import HandS.More
import PyProof.FactsSeq
import HandS.SortInts
import HandS.Iter
import KE.GoesMore
import PyProof.EnumMake
import HandS.TupSets
import HandS.Deep
import HandS.Conv
import HandS.TupMul
import HandS.SetFor
import HandS.Dict
import HandS.SetKeys
import HandS.ClsMeth
import PyProof.ZipIter
import HandS.Zip
import HandS.TryMany
import HandS.DictComp
import KE.SortData
import HandS.SortKw
import KE.KMinKey
import HandS.HotCalls
import HandS.Comp
import HandS.ExcCtx
import HandS.SuiteRaise
import PySem.Challenge.RW_everystepstands_k92_many_colours_within
set_option Elab.async false
set_option linter.all false
set_option maxRecDepth 100000
set_option maxHeartbeats 2000000
/-! Z: data (what a value stands for, by PyData), what evaluates to what datum. -/
namespace Z
open PySem L2
open Evl (Ex)
/-! ### what a value stands for: lists that are read, tuples that are tracked outright -/
mutual
inductive Dq (K : PySem.W.Frag) (H : Hp) : V → PyData → Prop
  | non : Dq K H .non .none
  | bl (b : Bool) : Dq K H (.bl b) (.bool b)
  | int (i : Int) : Dq K H (.int i) (.int i)
  | str (x : Str) : Dq K H (.str x) (.str x)
  | lst {a : Addr} {vs : List V} {ds : List PyData} (s : SqL K H a vs) (h : DqAll K H vs ds) : Dq K H (.ref a) (.list ds)
  | tup {a : Addr} {vs : List V} {ds : List PyData} (s : H a = some (.tup vs)) (h : DqAll K H vs ds) : Dq K H (.ref a) (.tuple ds)
  | obj (a : Addr) : Dq K H (.ref a) (.dict [(.int (a : Nat), .none)])
inductive DqAll (K : PySem.W.Frag) (H : Hp) : List V → List PyData → Prop
  | nil : DqAll K H [] []
  | cons {v : V} {vs : List V} {d : PyData} {ds : List PyData} (h : Dq K H v d) (t : DqAll K H vs ds) : DqAll K H (v :: vs) (d :: ds)
end
mutual
theorem dq_dp {K : PySem.W.Frag} {H : Hp} : ∀ (d : PyData) (v : V), d.canLay0 = true → Dq K H v d → Dp K H v d
  | .none, _, _, h => by cases h; exact .non
  | .bool b, _, _, h => by cases h; exact .bl b
  | .int i, _, _, h => by cases h; exact .int i
  | .str x, _, _, h => by cases h; exact .str x
  | .list ds, _, c, h => by
    cases h with
    | lst hs ha => exact .lst hs (dqa_dp ds _ (by unfold PyData.canLay0 at c; exact c) ha)
  | .tuple ds, _, c, h => by
    cases h with
    | tup hs ha => exact .tup (SqT.of hs) (dqa_dp ds _ (by unfold PyData.canLay0 at c; exact c) ha)
  | .dict _, _, c, h => by unfold PyData.canLay0 at c; cases c
theorem dqa_dp {K : PySem.W.Frag} {H : Hp} : ∀ (ds : List PyData) (vs : List V), PyData.canLayAll0 ds = true → DqAll K H vs ds → DpAll K H vs ds
  | [], _, _, h => by cases h; exact .nil
  | d :: ds, _, c, h => by
    have c' : d.canLay0 = true ∧ PyData.canLayAll0 ds = true := by
      unfold PyData.canLayAll0 at c
      exact Bool.and_eq_true_iff.mp c
    cases h with
    | cons a b => exact .cons (dq_dp d _ c'.1 a) (dqa_dp ds _ c'.2 b)
end
/-! ### data that stand in the heap stay when it grows -/
mutual
theorem dp_mono {K : PySem.W.Frag} {G H : Hp} (e : Ex G H) : ∀ (d : PyData) (v : V), Dq K G v d → Dq K H v d
  | .none, _, h => by cases h; exact .non
  | .bool b, _, h => by cases h; exact .bl b
  | .int i, _, h => by cases h; exact .int i
  | .str x, _, h => by cases h; exact .str x
  | .list ds, _, h => by
    cases h with
    | lst hs ha => exact .lst (Evl.ex_l e hs) (dpa_mono e ds _ ha)
  | .tuple ds, _, h => by
    cases h with
    | tup hs ha => exact .tup (e _ _ hs) (dpa_mono e ds _ ha)
  | .dict _, _, h => by cases h; exact .obj _
theorem dpa_mono {K : PySem.W.Frag} {G H : Hp} (e : Ex G H) : ∀ (ds : List PyData) (vs : List V), DqAll K G vs ds → DqAll K H vs ds
  | [], _, h => by cases h; exact .nil
  | d :: ds, _, h => by
    cases h with
    | cons a b => exact .cons (dp_mono e d _ a) (dpa_mono e ds _ b)
end
mutual
def immut : PyData → Bool
  | .list _ => false
  | .tuple ds => immuts ds
  | _ => true
def immuts : List PyData → Bool
  | [] => true
  | d :: ds => immut d && immuts ds
end
/-- the tuples of G stand in H -/
def Tups (G H : Hp) : Prop := ∀ a xs, G a = some (.tup xs) → H a = some (.tup xs)
mutual
theorem dp_imm {K : PySem.W.Frag} {G H : Hp} (e : Tups G H) : ∀ (d : PyData) (v : V), immut d = true → Dq K G v d → Dq K H v d
  | .none, _, _, h => by cases h; exact .non
  | .bool b, _, _, h => by cases h; exact .bl b
  | .int i, _, _, h => by cases h; exact .int i
  | .str x, _, _, h => by cases h; exact .str x
  | .list ds, _, i, h => by cases i
  | .tuple ds, _, i, h => by
    cases h with
    | tup hs ha => exact .tup (e _ _ hs) (dpa_imm e ds _ i ha)
  | .dict _, _, _, h => by cases h; exact .obj _
theorem dpa_imm {K : PySem.W.Frag} {G H : Hp} (e : Tups G H) : ∀ (ds : List PyData) (vs : List V), immuts ds = true → DqAll K G vs ds → DqAll K H vs ds
  | [], _, _, h => by cases h; exact .nil
  | d :: ds, _, i, h => by
    have i' : immut d = true ∧ immuts ds = true := by simpa [immuts] using i
    cases h with
    | cons a b => exact .cons (dp_imm e d _ i'.1 a) (dpa_imm e ds _ i'.2 b)
end
theorem Tups.ex {G H : Hp} (e : Ex G H) : Tups G H := fun _ _ h => e _ _ h
theorem Tups.trans {G H J : Hp} (e : Tups G H) (f : Tups H J) : Tups G J := fun _ _ h => f _ _ (e _ _ h)
theorem Tups.upd {H : Hp} {p : Addr} {xs : List V} {o : HO} (h : H p = some (.lst xs)) : Tups H (upd H p o) := fun a ys r => by
  rw [upd_ne (fun z => by rw [z, h] at r; cases r)]
  exact r
theorem Tups.del {H : Hp} {p : Addr} {xs : List V} (h : H p = some (.lst xs)) : Tups H (fun b => if b = p then none else H b) := fun a ys r => by
  show (if a = p then none else H a) = _
  rw [if_neg (fun z => by rw [z, h] at r; cases r)]
  exact r
theorem Dq.mono {K : PySem.W.Frag} {G H : Hp} {d : PyData} {v : V} (e : Ex G H) (h : Dq K G v d) : Dq K H v d := dp_mono e d v h
/-! ### types as data -/
/-- a tuple of any length -/
def Tp (α : Type) := List α
class Dat (α : Type) where
  enc : α → PyData
class Flat (α : Type) [Dat α] : Prop where
  imm : ∀ x : α, immut (Dat.enc x) = true
/-- data whose equality is Python's -/
class DatEq (α : Type) [Dat α] [DecidableEq α] : Prop where
  lay : ∀ x : α, (Dat.enc x).canLay0 = true
  eqv : ∀ x y : α, PyData.eqv (Dat.enc x) (Dat.enc y) = decide (x = y)
class Deep (α : Type) [Dat α] (n : outParam Nat) : Prop where
  dep : ∀ x : α, (Dat.enc x).depth ≤ n
open Dat
/-- an object, by its address -/
structure Ob where
  a : Nat
instance : Dat Ob := ⟨fun x => .dict [(.int (x.a : Nat), .none)]⟩
instance : Dat Unit := ⟨fun _ => .none⟩
instance : Dat Int := ⟨.int⟩
instance : Dat Bool := ⟨.bool⟩
instance : Dat Str := ⟨.str⟩
instance {α} [Dat α] : Dat (List α) := ⟨fun xs => .list (xs.map enc)⟩
instance {α} [Dat α] : Dat (Tp α) := ⟨fun xs => .tuple (List.map enc xs)⟩
instance {α β} [Dat α] [Dat β] : Dat (α × β) := ⟨fun x => .tuple [enc x.1, enc x.2]⟩
instance {α} [DecidableEq α] : DecidableEq (Tp α) := inferInstanceAs (DecidableEq (List α))
instance : Flat Ob := ⟨fun _ => rfl⟩
instance : Flat Unit := ⟨fun _ => rfl⟩
instance : Flat Int := ⟨fun _ => rfl⟩
instance : Flat Bool := ⟨fun _ => rfl⟩
instance : Flat Str := ⟨fun _ => rfl⟩
theorem immuts_map {α} [Dat α] [Flat α] : ∀ xs : List α, immuts (xs.map enc) = true
  | [] => rfl
  | x :: xs => by
    show (immut (enc x) && immuts (xs.map enc)) = true
    rw [Flat.imm, immuts_map xs] <;> rfl
instance {α} [Dat α] [Flat α] : Flat (Tp α) := ⟨fun xs => immuts_map (α := α) xs⟩
instance {α β} [Dat α] [Dat β] [Flat α] [Flat β] : Flat (α × β) := ⟨fun x => by
  show (immut (enc x.1) && (immut (enc x.2) && true)) = true
  rw [Flat.imm, Flat.imm] <;> rfl⟩
abbrev Rep (K : PySem.W.Frag) {α : Type} [Dat α] (H : Hp) (v : V) (x : α) : Prop := Dq K H v (enc x)
abbrev Reps (K : PySem.W.Frag) {α : Type} [Dat α] (H : Hp) (vs : List V) (xs : List α) : Prop := DqAll K H vs (xs.map enc)
section
variable {K : PySem.W.Frag} {G H : Hp} {v : V} {α β : Type} [Dat α] [Dat β]
theorem Reps.mono {vs : List V} {xs : List α} (e : Ex G H) (h : Reps K G vs xs) : Reps K H vs xs := dpa_mono e _ _ h
theorem Dq.imm [Flat α] {x : α} (e : Tups G H) (h : Rep K G v x) : Rep K H v x := dp_imm e _ _ (Flat.imm x) h
theorem Reps.imm [Flat α] {vs : List V} {xs : List α} (e : Tups G H) (h : Reps K G vs xs) : Reps K H vs xs := dpa_imm e _ _ (immuts_map xs) h
theorem Rep.int {i : Int} (h : Rep K H v i) : v = .int i := by
  have h' : Dq K H v (.int i) := h
  cases h'; rfl
theorem Rep.bool {b : Bool} (h : Rep K H v b) : v = .bl b := by
  have h' : Dq K H v (.bool b) := h
  cases h'; rfl
theorem Rep.str {b : Str} (h : Rep K H v b) : v = .str b := by
  have h' : Dq K H v (.str b) := h
  cases h'; rfl
theorem Rep.unit {b : Unit} (h : Rep K H v b) : v = .non := by
  have h' : Dq K H v .none := h
  cases h'; rfl
theorem Rep.obj {x : Ob} (h : Rep K H v x) : v = .ref x.a := by
  obtain ⟨a⟩ := x
  have h' : Dq K H v (.dict [(.int (a : Nat), .none)]) := h
  generalize e : (PyData.dict [(.int (a : Nat), .none)]) = d at h'
  cases h' with
  | obj b =>
    injection e with e
    injection e with e _
    injection e with e _
    injection e with e
    have e : a = b := Int.ofNat.inj e
    rw [e]
  | _ => cases e
theorem rep_obj (x : Ob) : Rep K H (.ref x.a) x := Dq.obj x.a
theorem rep_int (i : Int) : Rep K H (.int i) i := Dq.int i
theorem rep_bool (b : Bool) : Rep K H (.bl b) b := Dq.bl b
theorem rep_str (b : Str) : Rep K H (.str b) b := Dq.str b
theorem rep_unit : Rep K H .non () := Dq.non
theorem Rep.list {xs : List α} (h : Rep K H v xs) : ∃ a vs, v = .ref a ∧ SqL K H a vs ∧ Reps K H vs xs := by
  have h' : Dq K H v (.list (xs.map enc)) := h
  cases h' with
  | lst hs ha => exact ⟨_, _, rfl, hs, ha⟩
theorem Rep.tupP {xs : Tp α} (h : Rep K H v xs) : ∃ a vs, v = .ref a ∧ H a = some (.tup vs) ∧ Reps K H vs (α := α) xs := by
  have h' : Dq K H v (.tuple (List.map enc xs)) := h
  cases h' with
  | tup hs ha => exact ⟨_, _, rfl, hs, ha⟩
theorem Rep.tup {xs : Tp α} (h : Rep K H v xs) : ∃ a vs, v = .ref a ∧ SqT K H a vs ∧ Reps K H vs (α := α) xs := by
  obtain ⟨a, vs, e, s, r⟩ := Rep.tupP h
  exact ⟨a, vs, e, SqT.of s, r⟩
theorem rep_list {xs : List α} {a : Addr} {vs : List V} (h : SqL K H a vs) (r : Reps K H vs xs) : Rep K H (.ref a) xs := Dq.lst h r
theorem rep_tup {xs : Tp α} {a : Addr} {vs : List V} (h : H a = some (.tup vs)) (r : Reps K H vs (α := α) xs) : Rep K H (.ref a) xs := Dq.tup h r
theorem Rep.pair {x : α × β} (h : Rep K H v x) : ∃ a u w, v = .ref a ∧ SqT K H a [u, w] ∧ Rep K H u x.1 ∧ Rep K H w x.2 := by
  have h' : Dq K H v (.tuple [enc x.1, enc x.2]) := h
  cases h' with
  | tup hs ha =>
    cases ha with
    | cons a1 a2 =>
      cases a2 with
      | cons a2 a3 =>
        cases a3
        exact ⟨_, _, _, rfl, SqT.of hs, a1, a2⟩
theorem rep_pair {x : α} {y : β} {a : Addr} {u w : V} (h : H a = some (.tup [u, w])) (r : Rep K H u x) (s : Rep K H w y) : Rep K H (.ref a) (x, y) := Dq.tup h (.cons r (.cons s .nil))
theorem DqAll.len {vs : List V} {ds : List PyData} (h : DqAll K H vs ds) : vs.length = ds.length := by
  induction ds generalizing vs with
  | nil => cases h; rfl
  | cons d ds ih =>
    cases h with
    | cons a b => simp [ih b]
theorem Reps.len {vs : List V} {xs : List α} (h : Reps K H vs xs) : vs.length = xs.length := by
  have e := DqAll.len h
  rw [List.length_map] at e
  exact e
theorem reps_nil : Reps K H [] ([] : List α) := DqAll.nil
theorem Reps.cons {v : V} {vs : List V} {x : α} {xs : List α} (h : Rep K H v x) (r : Reps K H vs xs) : Reps K H (v :: vs) (x :: xs) := DqAll.cons h r
theorem Reps.inv {vs : List V} {x : α} {xs : List α} (h : Reps K H vs (x :: xs)) : ∃ v ws, vs = v :: ws ∧ Rep K H v x ∧ Reps K H ws xs := by
  have h' : DqAll K H vs (enc x :: xs.map enc) := h
  cases h' with
  | cons a b => exact ⟨_, _, rfl, a, b⟩
theorem Reps.nilI {vs : List V} (h : Reps K H vs ([] : List α)) : vs = [] := by
  have h' : DqAll K H vs [] := h
  cases h'; rfl
theorem Reps.append : ∀ {xs ys : List α} {vs ws : List V}, Reps K H vs xs → Reps K H ws ys → Reps K H (vs ++ ws) (xs ++ ys)
  | [], _, _, _, h, r => by
    obtain rfl := Reps.nilI h
    exact r
  | x :: xs, ys, vs, ws, h, r => by
    obtain ⟨v, us, rfl, h1, h2⟩ := Reps.inv h
    exact Reps.cons h1 (Reps.append h2 r)
theorem Reps.get : ∀ {xs : List α} {vs : List V} {i : Nat} {x : α}, Reps K H vs xs → xs[i]? = some x → ∃ v, vs[i]? = some v ∧ Rep K H v x
  | [], _, _, _, _, e => by simp at e
  | x :: xs, vs, 0, y, h, e => by
    obtain ⟨v, us, rfl, h1, h2⟩ := Reps.inv h
    simp at e
    subst e
    exact ⟨v, rfl, h1⟩
  | x :: xs, vs, i + 1, y, h, e => by
    obtain ⟨v, us, rfl, h1, h2⟩ := Reps.inv h
    simpa using Reps.get h2 (by simpa using e)
theorem Reps.got : ∀ {xs : List α} {vs : List V} {i : Nat} {v : V}, Reps K H vs xs → vs[i]? = some v → ∃ x, xs[i]? = some x ∧ Rep K H v x
  | [], vs, _, _, h, e => by
    obtain rfl := Reps.nilI h
    simp at e
  | x :: xs, vs, 0, y, h, e => by
    obtain ⟨v, us, rfl, h1, h2⟩ := Reps.inv h
    simp at e
    subst e
    exact ⟨x, rfl, h1⟩
  | x :: xs, vs, i + 1, y, h, e => by
    obtain ⟨v, us, rfl, h1, h2⟩ := Reps.inv h
    simpa using Reps.got h2 (by simpa using e)
theorem Reps.take : ∀ {xs : List α} {vs : List V} (n : Nat), Reps K H vs xs → Reps K H (vs.take n) (xs.take n)
  | xs, vs, 0, h => by simpa using reps_nil
  | [], vs, n + 1, h => by
    obtain rfl := Reps.nilI h
    exact reps_nil
  | x :: xs, vs, n + 1, h => by
    obtain ⟨v, us, rfl, h1, h2⟩ := Reps.inv h
    exact Reps.cons h1 (Reps.take n h2)
theorem Reps.drop : ∀ {xs : List α} {vs : List V} (n : Nat), Reps K H vs xs → Reps K H (vs.drop n) (xs.drop n)
  | xs, vs, 0, h => by simpa using h
  | [], vs, n + 1, h => by
    obtain rfl := Reps.nilI h
    exact reps_nil
  | x :: xs, vs, n + 1, h => by
    obtain ⟨v, us, rfl, h1, h2⟩ := Reps.inv h
    exact Reps.drop n h2
theorem Reps.set : ∀ {xs : List α} {vs : List V} {v : V} {x : α} (n : Nat), Reps K H vs xs → Rep K H v x → Reps K H (vs.set n v) (xs.set n x)
  | [], vs, v, x, n, h, r => by
    obtain rfl := Reps.nilI h
    exact reps_nil
  | y :: xs, vs, v, x, 0, h, r => by
    obtain ⟨v', us, rfl, h1, h2⟩ := Reps.inv h
    exact Reps.cons r h2
  | y :: xs, vs, v, x, n + 1, h, r => by
    obtain ⟨v', us, rfl, h1, h2⟩ := Reps.inv h
    exact Reps.cons h1 (Reps.set n h2 r)
theorem Reps.reverse : ∀ {xs : List α} {vs : List V}, Reps K H vs xs → Reps K H vs.reverse xs.reverse
  | [], vs, h => by
    obtain rfl := Reps.nilI h
    exact reps_nil
  | x :: xs, vs, h => by
    obtain ⟨v, us, rfl, h1, h2⟩ := Reps.inv h
    rw [List.reverse_cons, List.reverse_cons]
    exact Reps.append (Reps.reverse h2) (Reps.cons h1 reps_nil)
theorem Reps.ints : ∀ {xs : List Int} {vs : List V}, Reps K H vs xs → vs = xs.map V.int
  | [], vs, h => by obtain rfl := Reps.nilI h; rfl
  | x :: xs, vs, h => by
    obtain ⟨v, us, rfl, h1, h2⟩ := Reps.inv h
    rw [h1.int, Reps.ints h2]
    rfl
theorem reps_ints : ∀ (xs : List Int), Reps K H (xs.map V.int) xs
  | [] => reps_nil
  | x :: xs => Reps.cons (rep_int x) (reps_ints xs)
theorem Reps.bools : ∀ {xs : List Bool} {vs : List V}, Reps K H vs xs → vs = xs.map V.bl
  | [], vs, h => by obtain rfl := Reps.nilI h; rfl
  | x :: xs, vs, h => by
    obtain ⟨v, us, rfl, h1, h2⟩ := Reps.inv h
    rw [h1.bool, Reps.bools h2]
    rfl
theorem Reps.strs : ∀ {xs : List Str} {vs : List V}, Reps K H vs xs → vs = xs.map V.str
  | [], vs, h => by obtain rfl := Reps.nilI h; rfl
  | x :: xs, vs, h => by
    obtain ⟨v, us, rfl, h1, h2⟩ := Reps.inv h
    rw [h1.str, Reps.strs h2]
    rfl
end
end Z
set_option Elab.async false
set_option linter.all false
set_option maxRecDepth 100000
set_option maxHeartbeats 2000000
namespace Z
open PySem L2
open Evl (Ex)
open Dat
/-- H without p -/
def cut (H : Hp) (p : Addr) : Hp := fun b => if b = p then none else H b
theorem cut_ne {H : Hp} {p b : Addr} (h : b ≠ p) : cut H p b = H b := if_neg h
theorem cut_same {H : Hp} {p : Addr} : cut H p p = none := if_pos rfl
theorem cut_ex {H : Hp} {p : Addr} : Ex (cut H p) H := fun a o h => by
  by_cases e : a = p
  · rw [e, cut_same] at h; cases h
  · rw [cut_ne e] at h; exact h
theorem cut_mono {G H : Hp} {p : Addr} (e : Ex G H) : Ex (cut G p) (cut H p) := fun a o h => by
  by_cases q : a = p
  · rw [q, cut_same] at h; cases h
  · rw [cut_ne q] at h ⊢; exact e a o h
theorem cut_of {G H : Hp} {p : Addr} (e : Ex G H) (h : G p = none) : Ex G (cut H p) := fun a o q => by
  have : a ≠ p := fun z => by rw [z, h] at q; cases q
  rw [cut_ne this]; exact e a o q
theorem cut_upd {H : Hp} {p : Addr} {o : HO} : cut (upd H p o) p = cut H p := by
  funext b
  by_cases q : b = p
  · rw [q, cut_same, cut_same]
  · rw [cut_ne q, cut_ne q, upd_ne q]
theorem cut_updn {H : Hp} {p : Addr} {o : HO} (h : H p = none) : cut (upd H p o) p = H := by
  funext b
  by_cases q : b = p
  · rw [q, cut_same, h]
  · rw [cut_ne q, upd_ne q]
theorem cut_upd_ne {H : Hp} {p q : Addr} {o : HO} (h : q ≠ p) : cut (upd H q o) p = upd (cut H p) q o := by
  funext b
  by_cases e : b = p
  · rw [e, cut_same, upd_ne (Ne.symm h), cut_same]
  · rw [cut_ne e]
    by_cases e2 : b = q
    · rw [e2, upd_same, upd_same]
    · rw [upd_ne e2, upd_ne e2, cut_ne e]
theorem Tups.cut {H : Hp} {p : Addr} {xs : List V} (h : H p = some (.lst xs)) : Tups H (cut H p) := Tups.del h
theorem fresh_back {H H' : Hp} {p : Addr} (e : Ex H H') (h : H' p = none) : H p = none := Evl.fresh_back e h
theorem ne_new {H : Hp} {p q : Addr} {o : HO} (h : H p = some o) (k : H q = none) : p ≠ q := ne_of_none h k
/-- a list owned: it stands at p, its items lean on nothing at p -/
structure Own (K : PySem.W.Frag) {α : Type} [Dat α] (H : Hp) (p : Addr) (xs : List α) : Prop where
  ex : ∃ vs, H p = some (.lst vs) ∧ Reps K (cut H p) vs xs
section
variable {K : PySem.W.Frag} {α β : Type} [Dat α] [Dat β] {G H H' : Hp} {p : Addr}
theorem Own.mono {xs : List α} (e : Ex G H) (h : Own K G p xs) : Own K H p xs := by
  obtain ⟨vs, h1, h2⟩ := h.ex
  exact ⟨vs, e _ _ h1, h2.mono (cut_mono e)⟩
theorem Own.rep {xs : List α} (h : Own K H p xs) : Rep K H (.ref p) xs := by
  obtain ⟨vs, h1, h2⟩ := h.ex
  exact rep_list (SqL.of h1) (h2.mono cut_ex)
theorem Own.nil : Own K (upd H p (.lst [])) p ([] : List α) := ⟨[], upd_same, reps_nil⟩
theorem Own.there {xs : List α} (h : Own K H p xs) : ∃ vs, H p = some (.lst vs) ∧ vs.length = xs.length := by
  obtain ⟨vs, h1, h2⟩ := h.ex
  exact ⟨vs, h1, h2.len⟩
theorem Own.ne {xs : List α} {q : Addr} (h : Own K H p xs) (hq : H q = none) : p ≠ q := by
  obtain ⟨vs, h1, h2⟩ := h.ex
  exact ne_of_none h1 hq
/-- the heap that knows nothing of p is kept by a change at p -/
theorem ex_mut {o : HO} (e : Ex G H) (h : G p = none) : Ex G (upd H p o) := Evl.Ex.mut e h
end
/-! ### what evaluates to what -/
def ED (K : PySem.W.Frag) (te : TE) (σ : L2.St) (H : Hp) (d : PyData) : Prop := ∀ H1, Ex H H1 → ∀ Q : VK, (∀ v H2, Ex H1 H2 → Dq K H2 v d → Q v H2) → te σ H1 Q
section
variable (K : PySem.W.Frag) {α : Type} [Dat α]
abbrev ER (te : TE) (σ : L2.St) (H : Hp) (x : α) : Prop := ED K te σ H (enc x)
/-- a new list -/
def EL (te : TE) (σ : L2.St) (H : Hp) (xs : List α) : Prop := ∀ H1, Ex H H1 → ∀ Q : VK, (∀ p H2, H1 p = none → Ex H1 H2 → Own K H2 p xs → Q (.ref p) H2) → te σ H1 Q
def ET (_K : PySem.W.Frag) (tt : TT) (σ : L2.St) (H : Hp) (b : Bool) : Prop := ∀ H1, Ex H H1 → ∀ Q : Bool → Hp → Prop, (∀ H2, Ex H1 H2 → Q b H2) → tt σ H1 Q
/-- a value told outright -/
def EV (_K : PySem.W.Frag) (te : TE) (σ : L2.St) (H : Hp) (v : V) : Prop := ∀ H1, Ex H H1 → ∀ Q : VK, (∀ H2, Ex H1 H2 → Q v H2) → te σ H1 Q
def EO (_K : PySem.W.Frag) (to : TO) (σ : L2.St) (H : Hp) (o : Option Int) : Prop := ∀ H1, Ex H H1 → ∀ Q : Option Int → Hp → Prop, (∀ H2, Ex H1 H2 → Q o H2) → to σ H1 Q
end
section
variable {K : PySem.W.Frag} {α β γ δ : Type} [Dat α] [Dat β] [Dat γ] [Dat δ] {σ : L2.St} {G H H' : Hp} {te ta tb tc td : TE} {tt tu : TT}
theorem ED.mono {d : PyData} (e : Ex G H) (h : ED K te σ G d) : ED K te σ H d := fun H1 a Q q => h H1 (e.trans a) Q q
theorem ER.mono {x : α} (e : Ex G H) (h : ER K te σ G x) : ER K te σ H x := fun H1 a Q q => h H1 (e.trans a) Q q
theorem EL.mono {x : List α} (e : Ex G H) (h : EL K te σ G x) : EL K te σ H x := fun H1 a Q q => h H1 (e.trans a) Q q
theorem ET.mono {x : Bool} (e : Ex G H) (h : ET K tt σ G x) : ET K tt σ H x := fun H1 a Q q => h H1 (e.trans a) Q q
theorem EL.er {xs : List α} (h : EL K te σ H xs) : ER K te σ H xs := fun H1 e Q q => h H1 e Q fun p H2 _ e2 o => q _ H2 e2 o.rep
theorem ER.is {x y : α} (h : ER K te σ H x) (e : x = y) : ER K te σ H y := e ▸ h
theorem EL.is {x y : List α} (h : EL K te σ H x) (e : x = y) : EL K te σ H y := e ▸ h
theorem ET.is {x y : Bool} (h : ET K tt σ H x) (e : x = y) : ET K tt σ H y := e ▸ h
theorem EV.er {v : V} {x : α} (h : EV K te σ H v) (r : Rep K H v x) : ER K te σ H x := fun H1 e Q q => h H1 e Q fun H2 e2 => q v H2 e2 (r.mono (e.trans e2))
theorem ER.evI {i : Int} (h : ER K te σ H i) : EV K te σ H (.int i) := fun H1 e Q q => h H1 e Q fun v H2 e2 r => by rw [(Rep.int r)]; exact q H2 e2
theorem ER.evB {i : Bool} (h : ER K te σ H i) : EV K te σ H (.bl i) := fun H1 e Q q => h H1 e Q fun v H2 e2 r => by rw [(Rep.bool r)]; exact q H2 e2
theorem ER.evS {i : Str} (h : ER K te σ H i) : EV K te σ H (.str i) := fun H1 e Q q => h H1 e Q fun v H2 e2 r => by rw [(Rep.str r)]; exact q H2 e2
-- names, constants
theorem ed_var {i : Nat} {v : V} {d : PyData} (h : σ[i]? = some (some v)) (r : Dq K G v d) (e : Ex G H) : ED K (tVar i) σ H d := fun H1 e1 Q q => ⟨v, h, q v H1 (Ex.refl H1) (dp_mono (e.trans e1) _ _ r)⟩
theorem ed_own {i : Nat} {p : Addr} {xs : List α} (h : σ[i]? = some (some (.ref p))) (r : Own K G p xs) (e : Ex G H) : ED K (tVar i) σ H (.list (xs.map enc)) := ed_var h r.rep e
theorem ed_lenL {β : Type} {f : β → PyData} {xs : List β} (ha : ED K ta σ H (.list (xs.map f))) : ED K (tCB (fun xs H Q => ∃ p ys, xs = [.ref p] ∧ (SqL K H p ys ∨ SqT K H p ys) ∧ Q (.int ys.length) H) (tCons ta tNil)) σ H (.int (xs.length : Int)) := fun H1 e Q q =>
  ha H1 e _ fun v H2 e2 r => by
    cases r with
    | lst s r =>
      have e := DqAll.len r
      rw [List.length_map] at e
      exact ⟨_, _, rfl, .inl s, q _ H2 e2 (by rw [← e]; exact .int _)⟩
theorem ed_lenT {β : Type} {f : β → PyData} {xs : List β} (ha : ED K ta σ H (.tuple (xs.map f))) : ED K (tCB (fun xs H Q => ∃ p ys, xs = [.ref p] ∧ (SqL K H p ys ∨ SqT K H p ys) ∧ Q (.int ys.length) H) (tCons ta tNil)) σ H (.int (xs.length : Int)) := fun H1 e Q q =>
  ha H1 e _ fun v H2 e2 r => by
    cases r with
    | tup s r =>
      have e := DqAll.len r
      rw [List.length_map] at e
      exact ⟨_, _, rfl, .inr (SqT.of s), q _ H2 e2 (by rw [← e]; exact .int _)⟩
theorem er_var {i : Nat} {v : V} {x : α} (h : σ[i]? = some (some v)) (r : Rep K G v x) (e : Ex G H) : ER K (tVar i) σ H x := fun H1 e1 Q q => ⟨v, h, q v H1 (Ex.refl H1) (r.mono (e.trans e1))⟩
theorem er_own {i : Nat} {p : Addr} {xs : List α} (h : σ[i]? = some (some (.ref p))) (r : Own K G p xs) (e : Ex G H) : ER K (tVar i) σ H xs := er_var h r.rep e
theorem ev_var {i : Nat} {v : V} (h : σ[i]? = some (some v)) : EV K (tVar i) σ H v := fun H1 e1 Q q => ⟨v, h, q H1 (Ex.refl H1)⟩
theorem er_vint {i : Nat} {n : Int} (h : σ[i]? = some (some (.int n))) : ER K (tVar i) σ H n := er_var h (rep_int n) (Ex.refl H)
theorem er_vbl {i : Nat} {n : Bool} (h : σ[i]? = some (some (.bl n))) : ER K (tVar i) σ H n := er_var h (rep_bool n) (Ex.refl H)
theorem er_vstr {i : Nat} {n : Str} (h : σ[i]? = some (some (.str n))) : ER K (tVar i) σ H n := er_var h (rep_str n) (Ex.refl H)
theorem er_int {n : Int} : ER K (tC (.int n)) σ H n := fun H1 _ Q q => q _ H1 (Ex.refl H1) (rep_int n)
theorem er_bl {n : Bool} : ER K (tC (.bl n)) σ H n := fun H1 _ Q q => q _ H1 (Ex.refl H1) (rep_bool n)
theorem er_str {n : Str} : ER K (tC (.str n)) σ H n := fun H1 _ Q q => q _ H1 (Ex.refl H1) (rep_str n)
theorem er_non : ER K (tC .non) σ H () := fun H1 _ Q q => q _ H1 (Ex.refl H1) rep_unit
theorem ev_c {v : V} : EV K (tC v) σ H v := fun H1 _ Q q => q H1 (Ex.refl H1)
-- two ints
theorem er_I0 {g : Int → Int → Int} {i j : Int} (ha : ER K ta σ H i) (hb : ER K tb σ H j) : ER K (tOp (rI0 fun a b => .int (g a b)) ta tb) σ H (g i j) := fun H1 e Q q =>
  ha.evI H1 e _ fun H2 e2 => hb.evI H2 (e.trans e2) _ fun H3 e3 => ⟨i, j, rfl, rfl, q _ H3 (e2.trans e3) (rep_int _)⟩
theorem er_IB {g : Int → Int → Bool} {i j : Int} (ha : ER K ta σ H i) (hb : ER K tb σ H j) : ER K (tOp (rI0 fun a b => .bl (g a b)) ta tb) σ H (g i j) := fun H1 e Q q =>
  ha.evI H1 e _ fun H2 e2 => hb.evI H2 (e.trans e2) _ fun H3 e3 => ⟨i, j, rfl, rfl, q _ H3 (e2.trans e3) (rep_bool _)⟩
theorem er_I {C : Int → Int → Prop} {g : Int → Int → Int} {i j : Int} (ha : ER K ta σ H i) (hb : ER K tb σ H j) (hc : C i j) : ER K (tOp (rI C fun a b => .int (g a b)) ta tb) σ H (g i j) := fun H1 e Q q =>
  ha.evI H1 e _ fun H2 e2 => hb.evI H2 (e.trans e2) _ fun H3 e3 => ⟨i, j, rfl, rfl, hc, q _ H3 (e2.trans e3) (rep_int _)⟩
theorem er_neg {i : Int} (ha : ER K ta σ H i) : ER K (tUn (rU fun i => .int (-i)) ta) σ H (-i) := fun H1 e Q q =>
  ha.evI H1 e _ fun H2 e2 => ⟨i, rfl, q _ H2 e2 (rep_int _)⟩
theorem er_eqI {i j : Int} (ha : ER K ta σ H i) (hb : ER K tb σ H j) : ER K (tOp rEq ta tb) σ H (decide (i = j)) := fun H1 e Q q =>
  ha.evI H1 e _ fun H2 e2 => hb.evI H2 (e.trans e2) _ fun H3 e3 => ⟨rfl, by
    have : decide (V.int i = V.int j) = decide (i = j) := by simp
    rw [this]; exact q _ H3 (e2.trans e3) (rep_bool _)⟩
theorem er_neI {i j : Int} (ha : ER K ta σ H i) (hb : ER K tb σ H j) : ER K (tOp rNe ta tb) σ H (!decide (i = j)) := fun H1 e Q q =>
  ha.evI H1 e _ fun H2 e2 => hb.evI H2 (e.trans e2) _ fun H3 e3 => ⟨rfl, by
    have : decide (V.int i = V.int j) = decide (i = j) := by simp
    rw [this]; exact q _ H3 (e2.trans e3) (rep_bool _)⟩
theorem er_eqB {i j : Bool} (ha : ER K ta σ H i) (hb : ER K tb σ H j) : ER K (tOp rEq ta tb) σ H (decide (i = j)) := fun H1 e Q q =>
  ha.evB H1 e _ fun H2 e2 => hb.evB H2 (e.trans e2) _ fun H3 e3 => ⟨rfl, by
    have : decide (V.bl i = V.bl j) = decide (i = j) := by simp
    rw [this]; exact q _ H3 (e2.trans e3) (rep_bool _)⟩
-- == of data
theorem er_eqD {x y : α} [DecidableEq α] [DatEq α] {n : Nat} [Deep α n] (ha : ER K ta σ H x) (hb : ER K tb σ H y) (hn : n ≤ 64 := by decide) : ER K (tOp (rEqD K) ta tb) σ H (decide (x = y)) := fun H1 e Q q =>
  ha H1 e _ fun v H2 e2 r2 => hb H2 (e.trans e2) _ fun w H3 e3 r3 => ⟨enc x, enc y, dq_dp _ _ (DatEq.lay _) (r2.mono e3), dq_dp _ _ (DatEq.lay _) r3, by
      unfold SeqAt.shaped; rw [DatEq.lay]; exact decide_eq_true (Nat.le_trans (Deep.dep x) hn), by
      unfold SeqAt.shaped; rw [DatEq.lay]; exact decide_eq_true (Nat.le_trans (Deep.dep y) hn), by rw [DatEq.eqv]; exact q _ H3 (e2.trans e3) (rep_bool _)⟩
theorem er_neD {x y : α} [DecidableEq α] [DatEq α] {n : Nat} [Deep α n] (ha : ER K ta σ H x) (hb : ER K tb σ H y) (hn : n ≤ 64 := by decide) : ER K (tOp (rNeD K) ta tb) σ H (!decide (x = y)) := fun H1 e Q q =>
  ha H1 e _ fun v H2 e2 r2 => hb H2 (e.trans e2) _ fun w H3 e3 r3 => ⟨enc x, enc y, dq_dp _ _ (DatEq.lay _) (r2.mono e3), dq_dp _ _ (DatEq.lay _) r3, by
      unfold SeqAt.shaped; rw [DatEq.lay]; exact decide_eq_true (Nat.le_trans (Deep.dep x) hn), by
      unfold SeqAt.shaped; rw [DatEq.lay]; exact decide_eq_true (Nat.le_trans (Deep.dep y) hn), by rw [DatEq.eqv]; exact q _ H3 (e2.trans e3) (rep_bool _)⟩
-- subscripts
theorem reps_at {vs : List V} {xs : List α} {i : Int} {x : α} (r : Reps K H vs xs) (h : atI xs i = some x) : ∃ v, atI vs i = some v ∧ Rep K H v x := by
  unfold atI at h ⊢
  rw [r.len]
  cases e : ixN xs.length i with
  | none => rw [e] at h; cases h
  | some j =>
    rw [e] at h
    exact r.get h
theorem er_ixL {xs : List α} {i : Int} {x : α} (ha : ER K ta σ H xs) (hb : ER K tb σ H i) (hx : atI xs i = some x) : ER K (tOp (rIxL K) ta tb) σ H x := fun H1 e Q q =>
  ha H1 e _ fun v H2 e2 r => hb.evI H2 (e.trans e2) _ fun H3 e3 => by
    obtain ⟨a, vs, rfl, s, r⟩ := (Rep.list r)
    obtain ⟨w, hw, rw'⟩ := reps_at r hx
    exact ⟨a, vs, i, w, rfl, rfl, Evl.ex_l e3 s, hw, q _ H3 (e2.trans e3) (rw'.mono e3)⟩
theorem er_ixT {xs : Tp α} {i : Int} {x : α} (ha : ER K ta σ H xs) (hb : ER K tb σ H i) (hx : atI (α := α) xs i = some x) : ER K (tOp (rIxT K) ta tb) σ H x := fun H1 e Q q =>
  ha H1 e _ fun v H2 e2 r => hb.evI H2 (e.trans e2) _ fun H3 e3 => by
    obtain ⟨a, vs, rfl, s, r⟩ := (Rep.tup r)
    obtain ⟨w, hw, rw'⟩ := reps_at r hx
    exact ⟨a, vs, i, w, rfl, rfl, Evl.ex_t e3 s, hw, q _ H3 (e2.trans e3) (rw'.mono e3)⟩
theorem er_ix0 {x : α × β} (ha : ER K ta σ H x) : ER K (tOp (rIxT K) ta (tC (.int 0))) σ H x.1 := fun H1 e Q q =>
  ha H1 e _ fun v H2 e2 r => by
    obtain ⟨a, u, w, rfl, s, r1, r2⟩ := (Rep.pair r)
    exact ⟨a, _, 0, u, rfl, rfl, s, rfl, q _ H2 e2 r1⟩
theorem er_ix1 {x : α × β} (ha : ER K ta σ H x) : ER K (tOp (rIxT K) ta (tC (.int 1))) σ H x.2 := fun H1 e Q q =>
  ha H1 e _ fun v H2 e2 r => by
    obtain ⟨a, u, w, rfl, s, r1, r2⟩ := (Rep.pair r)
    exact ⟨a, _, 1, w, rfl, rfl, s, rfl, q _ H2 e2 r2⟩
-- len, int, list, tuple
theorem er_len {xs : List α} {k : Int} (ha : ER K ta σ H xs) (hk : k = (xs.length : Int)) : ER K (tCB (fun xs H Q => ∃ p ys, xs = [.ref p] ∧ (SqL K H p ys ∨ SqT K H p ys) ∧ Q (.int ys.length) H) (tCons ta tNil)) σ H k := fun H1 e Q q =>
  ha H1 e _ fun v H2 e2 r => by
    obtain ⟨a, vs, rfl, s, r⟩ := (Rep.list r)
    exact ⟨a, vs, rfl, .inl s, q _ H2 e2 (by rw [hk, ← r.len]; exact rep_int _)⟩
theorem er_lenT {xs : Tp α} {k : Int} (ha : ER K ta σ H xs) (hk : k = (List.length xs : Int)) : ER K (tCB (fun xs H Q => ∃ p ys, xs = [.ref p] ∧ (SqL K H p ys ∨ SqT K H p ys) ∧ Q (.int ys.length) H) (tCons ta tNil)) σ H k := fun H1 e Q q =>
  ha H1 e _ fun v H2 e2 r => by
    obtain ⟨a, vs, rfl, s, r⟩ := (Rep.tup r)
    exact ⟨a, vs, rfl, .inr s, q _ H2 e2 (by rw [hk, ← r.len]; exact rep_int _)⟩
theorem er_int1 {n : Int} (ha : ER K ta σ H n) : ER K (tCB (fun xs H Q => (∃ i, xs = [.int i] ∧ Q (.int i) H) ∨ ∃ k, xs = [.bl k] ∧ Q (.int (if k then 1 else 0)) H) (tCons ta tNil)) σ H n := fun H1 e Q q =>
  ha.evI H1 e _ fun H2 e2 => .inl ⟨n, rfl, q _ H2 e2 (rep_int _)⟩
theorem el_list {xs : List α} (ha : ER K ta σ H xs) : EL K (tCB (fun xs H Q => ∃ p ys, xs = [.ref p] ∧ (SqL K H p ys ∨ SqT K H p ys) ∧ ∀ l, H l = none → Q (.ref l) (upd H l (.lst ys))) (tCons ta tNil)) σ H xs := fun H1 e Q q =>
  ha H1 e _ fun v H2 e2 r => by
    obtain ⟨a, vs, rfl, s, r⟩ := (Rep.list r)
    exact ⟨a, vs, rfl, .inl s, fun l hl => q l _ (fresh_back e2 hl) (e2.trans (Evl.Ex.new hl)) ⟨vs, upd_same, by rw [cut_updn hl]; exact r⟩⟩
theorem el_listT {xs : Tp α} (ha : ER K ta σ H xs) : EL K (tCB (fun xs H Q => ∃ p ys, xs = [.ref p] ∧ (SqL K H p ys ∨ SqT K H p ys) ∧ ∀ l, H l = none → Q (.ref l) (upd H l (.lst ys))) (tCons ta tNil)) σ H (α := α) xs := fun H1 e Q q =>
  ha H1 e _ fun v H2 e2 r => by
    obtain ⟨a, vs, rfl, s, r⟩ := (Rep.tup r)
    exact ⟨a, vs, rfl, .inr s, fun l hl => q l _ (fresh_back e2 hl) (e2.trans (Evl.Ex.new hl)) ⟨vs, upd_same, by rw [cut_updn hl]; exact r⟩⟩
theorem er_tuple {xs : List α} (ha : ER K ta σ H xs) : ER K (tCB (fun xs H Q => ∃ p ys, xs = [.ref p] ∧ ((SqL K H p ys ∧ ∀ l, H l = none → Q (.ref l) (upd H l (.tup ys))) ∨ (SqT K H p ys ∧ Q (.ref p) H))) (tCons ta tNil)) σ H (show Tp α from xs) := fun H1 e Q q =>
  ha H1 e _ fun v H2 e2 r => by
    obtain ⟨a, vs, rfl, s, r⟩ := (Rep.list r)
    exact ⟨a, vs, rfl, .inl ⟨s, fun l hl => q _ _ (e2.trans (Evl.Ex.new hl)) (rep_tup upd_same (r.mono (Evl.Ex.new hl)))⟩⟩
-- displays
/-- arguments that stand for xs -/
def EA (K : PySem.W.Frag) {α : Type} [Dat α] (ta : TA) (σ : L2.St) (H : Hp) (xs : List α) : Prop := ∀ H1, Ex H H1 → ∀ Q : List V → Hp → Prop, (∀ vs H2, Ex H1 H2 → Reps K H2 vs xs → Q vs H2) → ta σ H1 Q
theorem ea_nil : EA K tNil σ H ([] : List α) := fun H1 _ Q q => q [] H1 (Ex.refl H1) reps_nil
theorem ea_cons {tr : TA} {x : α} {xs : List α} (h : ER K ta σ H x) (hr : EA K tr σ H xs) : EA K (tCons ta tr) σ H (x :: xs) := fun H1 e Q q =>
  h H1 e _ fun v H2 e2 r => hr H2 (e.trans e2) _ fun vs H3 e3 rs => q _ H3 (e2.trans e3) (Reps.cons (r.mono e3) rs)
theorem el_lst {t : TA} {xs : List α} (h : EA K t σ H xs) (hl : xs.length ≤ 100000 := by first | decide | (simp only [List.length_cons, List.length_nil]; omega)) : EL K (tLst t) σ H xs := fun H1 e Q q =>
  h H1 e _ fun vs H2 e2 r => ⟨Evl.sz_of (by rw [r.len]; exact hl), fun p hp => q p _ (fresh_back e2 hp) (e2.trans (Evl.Ex.new hp)) ⟨vs, upd_same, by rw [cut_updn hp]; exact r⟩⟩
theorem er_tup {t : TA} {xs : List α} (h : EA K t σ H xs) (hl : xs.length ≤ 100000 := by first | decide | (simp only [List.length_cons, List.length_nil]; omega)) : ER K (tTup t) σ H (show Tp α from xs) := fun H1 e Q q =>
  h H1 e _ fun vs H2 e2 r => ⟨Evl.sz_of (by rw [r.len]; exact hl), fun p hp => q _ _ (e2.trans (Evl.Ex.new hp)) (rep_tup upd_same (r.mono (Evl.Ex.new hp)))⟩
theorem er_pair {x : α} {y : β} (h : ER K ta σ H x) (k : ER K tb σ H y) : ER K (tTup (tCons ta (tCons tb tNil))) σ H (x, y) := fun H1 e Q q =>
  h H1 e _ fun v H2 e2 r => k H2 (e.trans e2) _ fun w H3 e3 s => ⟨Evl.sz_of (by show 2 ≤ 100000; decide), fun p hp => q _ _ ((e2.trans e3).trans (Evl.Ex.new hp)) (rep_pair upd_same (r.mono (e3.trans (Evl.Ex.new hp))) (s.mono (Evl.Ex.new hp)))⟩
-- slices
theorem eo_none : EO K tNoPart σ H none := fun H1 _ Q q => q H1 (Ex.refl H1)
theorem eo_some {i : Int} (h : ER K te σ H i) : EO K (tPart te) σ H (some i) := fun H1 e Q q => h.evI H1 e _ fun H2 e2 => ⟨i, rfl, q H2 e2⟩
def cutD {α : Type} (xs : List α) (lo hi : Option Int) : List α := (xs.drop (HT.sIx xs.length 0 lo)).take (HT.sIx xs.length xs.length hi - HT.sIx xs.length 0 lo)
theorem Reps.cutV {vs : List V} {xs : List α} {lo hi : Option Int} (r : Reps K H vs xs) : Reps K H (L2.cutV vs lo hi) (cutD xs lo hi) := by
  unfold L2.cutV cutD
  rw [r.len]
  exact (r.drop _).take _
theorem el_sl {xs : List α} {tl th : TO} {lo hi : Option Int} (ha : ER K ta σ H xs) (hl : EO K tl σ H lo) (hh : EO K th σ H hi) : EL K (tSl (rSlL K) ta tl th) σ H (cutD xs lo hi) := fun H1 e Q q =>
  ha H1 e _ fun v H2 e2 r => hl H2 (e.trans e2) _ fun H3 e3 => hh H3 ((e.trans e2).trans e3) _ fun H4 e4 => by
    obtain ⟨a, vs, rfl, s, r⟩ := (Rep.list r)
    exact ⟨a, vs, rfl, Evl.ex_l (e3.trans e4) s, fun p hp => q p _ (fresh_back ((e2.trans e3).trans e4) hp) (((e2.trans e3).trans e4).trans (Evl.Ex.new hp))
      ⟨_, upd_same, by rw [cut_updn hp]; exact (r.cutV).mono (e3.trans e4)⟩⟩
theorem er_slT {xs : Tp α} {tl th : TO} {lo hi : Option Int} (ha : ER K ta σ H xs) (hl : EO K tl σ H lo) (hh : EO K th σ H hi) : ER K (tSl (rSlA K) ta tl th) σ H (show Tp α from cutD (α := α) xs lo hi) := fun H1 e Q q =>
  ha H1 e _ fun v H2 e2 r => hl H2 (e.trans e2) _ fun H3 e3 => hh H3 ((e.trans e2).trans e3) _ fun H4 e4 => by
    obtain ⟨a, vs, rfl, s, r⟩ := (Rep.tupP r)
    have s4 := (e3.trans e4) _ _ s
    have r4 := r.mono (e3.trans e4)
    refine ⟨a, vs, rfl, SqT.of s4, fun w => q _ H4 ((e2.trans e3).trans e4) (rep_tup (vs := vs) s4 ?_), fun w p hp => q _ _ (((e2.trans e3).trans e4).trans (Evl.Ex.new hp)) (rep_tup upd_same ((r4.cutV).mono (Evl.Ex.new hp)))⟩
    have c := Reps.cutV (lo := lo) (hi := hi) r4
    have z : L2.cutV vs lo hi = vs := by
      unfold L2.cutV
      rw [w.1, w.2, List.drop_zero, Nat.sub_zero, List.take_length]
    rw [z] at c
    exact c
theorem el_rev {xs : List α} (ha : ER K ta σ H xs) : EL K (tRevL K ta) σ H xs.reverse := fun H1 e Q q =>
  ha H1 e _ fun v H2 e2 r => by
    obtain ⟨a, vs, rfl, s, r⟩ := (Rep.list r)
    exact ⟨a, vs, rfl, s, fun p hp => q p _ (fresh_back e2 hp) (e2.trans (Evl.Ex.new hp)) ⟨_, upd_same, by rw [cut_updn hp]; exact r.reverse⟩⟩
-- tuple + tuple
theorem er_catT {xs ys : Tp α} (ha : ER K ta σ H xs) (hb : ER K tb σ H ys) (hl : List.length xs + List.length ys ≤ 100000) : ER K (tOp (rCatA K) ta tb) σ H (show Tp α from @List.append α xs ys) := fun H1 e Q q =>
  ha H1 e _ fun v H2 e2 r => hb H2 (e.trans e2) _ fun w H3 e3 s => by
    obtain ⟨a, vs, rfl, s1, r1⟩ := (Rep.tupP r)
    obtain ⟨b, ws, rfl, s2, r2⟩ := (Rep.tupP s)
    have s1' := e3 _ _ s1
    have r1' := r1.mono e3
    have c : Reps K H3 (vs ++ ws) (@List.append α xs ys) := r1'.append r2
    refine ⟨a, b, vs, ws, rfl, rfl, SqT.of s1', SqT.of s2, Evl.sz_of (by rw [r1.len, r2.len]; exact hl), fun z => ?_, fun _ z => ?_, fun _ _ p hp => ?_⟩
    · subst z
      exact q _ H3 (e2.trans e3) (rep_tup s2 c)
    · subst z
      rw [List.append_nil] at c
      exact q _ H3 (e2.trans e3) (rep_tup s1' c)
    · exact q _ _ ((e2.trans e3).trans (Evl.Ex.new hp)) (rep_tup upd_same (c.mono (Evl.Ex.new hp)))
-- list + list, of lists that stand tracked
theorem el_cat {xs ys : List α} (ha : EL K ta σ H xs) (hb : EL K tb σ H ys) [Flat α] (hl : xs.length + ys.length ≤ 100000) : EL K (tOp rCat ta tb) σ H (xs ++ ys) := fun H1 e Q q =>
  ha H1 e _ fun p H2 hp e2 o => hb H2 (e.trans e2) _ fun r H3 hr e3 o2 => by
    obtain ⟨vs, h1, r1⟩ := (o.mono e3).ex
    obtain ⟨ws, h2, r2⟩ := o2.ex
    refine ⟨p, r, vs, ws, rfl, rfl, h1, h2, Evl.sz_of (by rw [r1.len, r2.len]; exact hl), fun t ht => q t _ (fresh_back (e2.trans e3) ht) ((e2.trans e3).trans (Evl.Ex.new ht)) ⟨_, upd_same, ?_⟩⟩
    rw [cut_updn ht]
    exact (r1.mono cut_ex).append (r2.mono cut_ex)
-- tests
theorem et_test {b : Bool} (h : ER K te σ H b) : ET K (tTest te) σ H b := fun H1 e _ q => h.evB H1 e _ fun H2 e2 => ⟨b, rfl, q H2 e2⟩
theorem et_B {b : Bool} (h : ER K te σ H b) : ET K (tB te) σ H b := fun H1 e _ q => h.evB H1 e _ fun H2 e2 => ⟨b, rfl, q H2 e2⟩
theorem et_and {a b : Bool} (h1 : ET K tt σ H a) (h2 : a = true → ET K tu σ H b) : ET K (tAnd tt tu) σ H (a && b) := fun H1 e Q q => h1 H1 e _ fun H2 e2 => by
  cases a with
  | true => exact h2 rfl H2 (e.trans e2) Q fun H3 e3 => q H3 (e2.trans e3)
  | false => exact q H2 e2
theorem et_or {a b : Bool} (h1 : ET K tt σ H a) (h2 : a = false → ET K tu σ H b) : ET K (tOr tt tu) σ H (a || b) := fun H1 e Q q => h1 H1 e _ fun H2 e2 => by
  cases a with
  | true => exact q H2 e2
  | false => exact h2 rfl H2 (e.trans e2) Q fun H3 e3 => q H3 (e2.trans e3)
theorem et_not {a : Bool} (h1 : ET K tt σ H a) : ET K (tNot tt) σ H (!a) := fun H1 e _ q => h1 H1 e _ fun H2 e2 => q H2 e2
theorem er_andV {a b : Bool} (h1 : ER K ta σ H a) (h2 : a = true → ER K tb σ H b) : ER K (tAndV ta tb) σ H (a && b) := fun H1 e Q q => h1.evB H1 e _ fun H2 e2 => ⟨a, rfl, by
  cases a with
  | true => exact h2 rfl H2 (e.trans e2) Q fun v H3 e3 r => q v H3 (e2.trans e3) r
  | false => exact q _ H2 e2 (rep_bool _)⟩
theorem er_orV {a b : Bool} (h1 : ER K ta σ H a) (h2 : a = false → ER K tb σ H b) : ER K (tOrV ta tb) σ H (a || b) := fun H1 e Q q => h1.evB H1 e _ fun H2 e2 => ⟨a, rfl, by
  cases a with
  | true => exact q _ H2 e2 (rep_bool _)
  | false => exact h2 rfl H2 (e.trans e2) Q fun v H3 e3 r => q v H3 (e2.trans e3) r⟩
theorem er_notV {a : Bool} (h1 : ER K ta σ H a) : ER K (tNotV ta) σ H (!a) := fun H1 e Q q => h1.evB H1 e _ fun H2 e2 => ⟨a, rfl, q _ H2 e2 (rep_bool _)⟩
theorem er_if {b : Bool} {x y : α} (h : ET K tt σ H b) (h1 : b = true → ER K ta σ H x) (h2 : b = false → ER K tb σ H y) : ER K (tIf tt ta tb) σ H (if b = true then x else y) := fun H1 e Q q => h H1 e _ fun H2 e2 => by
  cases b with
  | true => exact h1 rfl H2 (e.trans e2) Q fun v H3 e3 r => q v H3 (e2.trans e3) r
  | false => exact h2 rfl H2 (e.trans e2) Q fun v H3 e3 r => q v H3 (e2.trans e3) r
end
/-! ### promises of defs -/
section
variable (K : PySem.W.Frag) {α β γ δ ε : Type} [Dat α] [Dat β] [Dat γ] [Dat δ] [Dat ε]
/-- a datum from data -/
def sp1 (pre : α → Prop) (m : α → ε) : Sp := fun vs H Q _ => ∃ v x, vs = [v] ∧ Rep K H v x ∧ pre x ∧ ∀ w H', Ex H H' → Rep K H' w (m x) → Q w H'
def sp2 (pre : α → β → Prop) (m : α → β → ε) : Sp := fun vs H Q _ => ∃ v u x y, vs = [v, u] ∧ Rep K H v x ∧ Rep K H u y ∧ pre x y ∧ ∀ w H', Ex H H' → Rep K H' w (m x y) → Q w H'
def sp3 (pre : α → β → γ → Prop) (m : α → β → γ → ε) : Sp := fun vs H Q _ => ∃ v u t x y z, vs = [v, u, t] ∧ Rep K H v x ∧ Rep K H u y ∧ Rep K H t z ∧ pre x y z ∧ ∀ w H', Ex H H' → Rep K H' w (m x y z) → Q w H'
/-- a new list from data -/
def sl1 (pre : α → Prop) (m : α → List ε) : Sp := fun vs H Q _ => ∃ v x, vs = [v] ∧ Rep K H v x ∧ pre x ∧ ∀ p H', H p = none → Ex H H' → Own K H' p (m x) → Q (.ref p) H'
def sl2 (pre : α → β → Prop) (m : α → β → List ε) : Sp := fun vs H Q _ => ∃ v u x y, vs = [v, u] ∧ Rep K H v x ∧ Rep K H u y ∧ pre x y ∧ ∀ p H', H p = none → Ex H H' → Own K H' p (m x y) → Q (.ref p) H'
def sl3 (pre : α → β → γ → Prop) (m : α → β → γ → List ε) : Sp := fun vs H Q _ => ∃ v u t x y z, vs = [v, u, t] ∧ Rep K H v x ∧ Rep K H u y ∧ Rep K H t z ∧ pre x y z ∧ ∀ p H', H p = none → Ex H H' → Own K H' p (m x y z) → Q (.ref p) H'
end
section
variable {K : PySem.W.Frag} {α β γ δ ε : Type} [Dat α] [Dat β] [Dat γ] [Dat δ] [Dat ε] {σ : L2.St} {H : Hp} {ta tb tc : TE} {E : XK}
theorem er_c1 {pre : α → Prop} {m : α → ε} {x : α} (h : ER K ta σ H x) (hp : pre x) : ER K (tCall (sp1 K pre m) [] E (tCons ta tNil)) σ H (m x) := fun H1 e Q q =>
  h H1 e _ fun v H2 e2 r => ⟨v, x, rfl, r, hp, fun w H3 e3 s => q w H3 (e2.trans e3) s⟩
theorem er_c2 {pre : α → β → Prop} {m : α → β → ε} {x : α} {y : β} (h : ER K ta σ H x) (h2 : ER K tb σ H y) (hp : pre x y) : ER K (tCall (sp2 K pre m) [] E (tCons ta (tCons tb tNil))) σ H (m x y) := fun H1 e Q q =>
  h H1 e _ fun v H2 e2 r => h2 H2 (e.trans e2) _ fun u H3 e3 r2 => ⟨v, u, x, y, rfl, r.mono e3, r2, hp, fun w H4 e4 s => q w H4 ((e2.trans e3).trans e4) s⟩
theorem er_c3 {pre : α → β → γ → Prop} {m : α → β → γ → ε} {x : α} {y : β} {z : γ} (h : ER K ta σ H x) (h2 : ER K tb σ H y) (h3 : ER K tc σ H z) (hp : pre x y z) : ER K (tCall (sp3 K pre m) [] E (tCons ta (tCons tb (tCons tc tNil)))) σ H (m x y z) := fun H1 e Q q =>
  h H1 e _ fun v H2 e2 r => h2 H2 (e.trans e2) _ fun u H3 e3 r2 => h3 H3 ((e.trans e2).trans e3) _ fun t H4 e4 r3 => ⟨v, u, t, x, y, z, rfl, r.mono (e3.trans e4), r2.mono e4, r3, hp, fun w H5 e5 s => q w H5 (((e2.trans e3).trans e4).trans e5) s⟩
theorem el_c1 {pre : α → Prop} {m : α → List ε} {x : α} (h : ER K ta σ H x) (hp : pre x) : EL K (tCall (sl1 K pre m) [] E (tCons ta tNil)) σ H (m x) := fun H1 e Q q =>
  h H1 e _ fun v H2 e2 r => ⟨v, x, rfl, r, hp, fun w H3 n3 e3 s => q w H3 (fresh_back e2 n3) (e2.trans e3) s⟩
theorem el_c2 {pre : α → β → Prop} {m : α → β → List ε} {x : α} {y : β} (h : ER K ta σ H x) (h2 : ER K tb σ H y) (hp : pre x y) : EL K (tCall (sl2 K pre m) [] E (tCons ta (tCons tb tNil))) σ H (m x y) := fun H1 e Q q =>
  h H1 e _ fun v H2 e2 r => h2 H2 (e.trans e2) _ fun u H3 e3 r2 => ⟨v, u, x, y, rfl, r.mono e3, r2, hp, fun w H4 n4 e4 s => q w H4 (fresh_back (e2.trans e3) n4) ((e2.trans e3).trans e4) s⟩
theorem el_c3 {pre : α → β → γ → Prop} {m : α → β → γ → List ε} {x : α} {y : β} {z : γ} (h : ER K ta σ H x) (h2 : ER K tb σ H y) (h3 : ER K tc σ H z) (hp : pre x y z) : EL K (tCall (sl3 K pre m) [] E (tCons ta (tCons tb (tCons tc tNil)))) σ H (m x y z) := fun H1 e Q q =>
  h H1 e _ fun v H2 e2 r => h2 H2 (e.trans e2) _ fun u H3 e3 r2 => h3 H3 ((e.trans e2).trans e3) _ fun t H4 e4 r3 => ⟨v, u, t, x, y, z, rfl, r.mono (e3.trans e4), r2.mono e4, r3, hp, fun w H5 n5 e5 s => q w H5 (fresh_back ((e2.trans e3).trans e4) n5) (((e2.trans e3).trans e4).trans e5) s⟩
end
section
variable {CX : CXT} {P : Program} {w : World} {K : PySem.W.Frag} {mg : Str → Option Value} {base : Heap} {N : List Str} {qual : Str} {sc : Scope} {f : Addr} {cd : Value} {A : Around} {outer : List Env} {s : Shared} {H : Hp} {E : XK} {X : Cx}
theorem kx1 : (cxOf CX P w K mg base N qual sc f cd A outer s H E).nox.K = K := rfl
theorem kx2 : (cxOf CX P w K mg base N qual sc f cd A outer s H E).K = K := rfl
theorem kx3 {s' : Shared} {H' : Hp} {scope : Scope} {env : Env} {fp : List Addr} : (X.blk s' H' scope env fp).K = X.K := rfl
end
/-! ### statements -/
section
variable {K : PySem.W.Frag} {α β : Type} [Dat α] [Dat β] {σ : L2.St} {G H : Hp} {te : TE} {tt : TT} {t u : TS} {D : Ends} {i : Nat}
theorem s_seq (h : t { D with nx := u D } σ H) : tSeq t u D σ H := h
theorem s_set {x : α} (h : ER K te σ H x) (k : ∀ v H', Ex H H' → Rep K H' v x → D.nx (σ.set i (some v)) H') : tAsg te (gName i) D σ H := h H (Ex.refl H) _ k
theorem s_setI {x : Int} (h : ER K te σ H x) (k : ∀ H', Ex H H' → D.nx (σ.set i (some (.int x))) H') : tAsg te (gName i) D σ H := h.evI H (Ex.refl H) _ k
theorem s_setB {x : Bool} (h : ER K te σ H x) (k : ∀ H', Ex H H' → D.nx (σ.set i (some (.bl x))) H') : tAsg te (gName i) D σ H := h.evB H (Ex.refl H) _ k
theorem s_setL {xs : List α} (h : EL K te σ H xs) (k : ∀ p H', H p = none → Ex H H' → Own K H' p xs → D.nx (σ.set i (some (.ref p))) H') : tAsg te (gName i) D σ H := h H (Ex.refl H) _ k
/-! the same ahead of a rest -/
theorem q_asg {w : V} {g : TG} (h : EV K te σ H w) (k : ∀ H', Ex H H' → g w σ H' (u D)) : tSeq (tAsg te g) u D σ H := h H (Ex.refl H) _ k
theorem q_set {x : α} (h : ER K te σ H x) (k : ∀ v H', Ex H H' → Rep K H' v x → u D (σ.set i (some v)) H') : tSeq (tAsg te (gName i)) u D σ H := s_set (D := { D with nx := u D }) h k
theorem q_setI {x : Int} (h : ER K te σ H x) (k : ∀ H', Ex H H' → u D (σ.set i (some (.int x))) H') : tSeq (tAsg te (gName i)) u D σ H := s_setI (D := { D with nx := u D }) h k
theorem q_setB {x : Bool} (h : ER K te σ H x) (k : ∀ H', Ex H H' → u D (σ.set i (some (.bl x))) H') : tSeq (tAsg te (gName i)) u D σ H := s_setB (D := { D with nx := u D }) h k
theorem q_setV {v : V} (h : EV K te σ H v) (k : ∀ H', Ex H H' → u D (σ.set i (some v)) H') : tSeq (tAsg te (gName i)) u D σ H := h H (Ex.refl H) _ k
theorem q_setL {xs : List α} (h : EL K te σ H xs) (k : ∀ p H', H p = none → Ex H H' → Own K H' p xs → u D (σ.set i (some (.ref p))) H') : tSeq (tAsg te (gName i)) u D σ H := s_setL (D := { D with nx := u D }) h k
theorem s_ret {x : α} (h : ER K te σ H x) (k : ∀ v H', Ex H H' → Rep K H' v x → D.rt v H') : tRet te D σ H := h H (Ex.refl H) _ k
theorem s_retL {xs : List α} (h : EL K te σ H xs) (k : ∀ p H', H p = none → Ex H H' → Own K H' p xs → D.rt (.ref p) H') : tRet te D σ H := h H (Ex.refl H) _ k
theorem s_if {b : Bool} (h : ET K tt σ H b) (k1 : b = true → ∀ H', Ex H H' → t D σ H') (k2 : b = false → ∀ H', Ex H H' → u D σ H') : tIfS tt t u D σ H := h H (Ex.refl H) _ fun H2 e2 => by
  cases b with
  | true => exact k1 rfl H2 e2
  | false => exact k2 rfl H2 e2
theorem q_if {b : Bool} (h : ET K tt σ H b) (k1 : b = true → ∀ H', Ex H H' → t { D with nx := u D } σ H') (k2 : b = false → ∀ H', Ex H H' → u D σ H') : tSeq (tIfS tt t tNext) u D σ H := s_if (D := { D with nx := u D }) h k1 k2
/-- l.append(e), l a name -/
theorem s_app {l : Nat} {p : Addr} {xs : List α} {x : α} (hl : σ[l]? = some (some (.ref p))) (ho : Own K H p xs) (h : ER K te σ H x) [Flat α] (hz : xs.length < 100000) (k : ∀ H', (∀ G, Ex G H → G p = none → Ex G H') → Tups H H' → Own K H' p (xs ++ [x]) → D.nx σ H') :
    tDrop (tBM K "list" rAppend (tVar l) (tCons te tNil)) D σ H := by
  obtain ⟨vs, h1, r1⟩ := ho.ex
  refine ⟨_, hl, .inl ⟨rfl, _, SqL.of h1⟩, h H (Ex.refl H) _ fun v H1 e1 r => ?_⟩
  obtain ⟨ws, h2, r2⟩ := (ho.mono e1).ex
  have ew : ws = vs := by
    have := e1 _ _ h1
    rw [this] at h2
    cases h2; rfl
  subst ew
  refine ⟨p, ws, v, rfl, rfl, h2, Evl.sz_lt (by rw [r2.len]; exact hz), k _ (fun G eG hG => ex_mut (eG.trans e1) hG) ((Tups.ex e1).trans (Tups.upd h2)) ⟨_, upd_same, ?_⟩⟩
  rw [cut_upd]
  exact Reps.append r2 (Reps.cons (r.imm (Tups.cut h2)) reps_nil)
theorem q_app {l : Nat} {p : Addr} {xs : List α} {x : α} (hl : σ[l]? = some (some (.ref p))) (ho : Own K H p xs) (h : ER K te σ H x) [Flat α] (hz : xs.length < 100000) (k : ∀ H', (∀ G, Ex G H → G p = none → Ex G H') → Tups H H' → Own K H' p (xs ++ [x]) → u D σ H') :
    tSeq (tDrop (tBM K "list" rAppend (tVar l) (tCons te tNil))) u D σ H := s_app (D := { D with nx := u D }) hl ho h hz k
/-- a for over a list that stands; G: what the turns leave as it is -/
theorem s_for {xs : List α} {g : TG} {tb : TS} (h : ER K te σ H xs) (k : ∀ a vs H1, Ex H H1 → SqL K H1 a vs → Reps K H1 vs xs → ∃ (G : Hp) (J : Nat → L2.St → Hp → Prop), Ex G H1 ∧ SqL K G a vs ∧ Reps K G vs xs ∧ J 0 σ H1 ∧
      (∀ i x v σ' H', xs[i]? = some x → Ex G H' → Rep K G v x → J i σ' H' → g v σ' H' fun σ2 H2 => tb { D with nx := fun σ3 H3 => Ex G H3 ∧ J (i + 1) σ3 H3, ct := fun σ3 H3 => Ex G H3 ∧ J (i + 1) σ3 H3, bk := D.nx } σ2 H2) ∧
      (∀ σ' H', Ex G H' → J xs.length σ' H' → D.nx σ' H')) : tFor (iList K te) g tb D σ H := h H (Ex.refl H) _ fun v H1 e1 r => by
  obtain ⟨a, vs, rfl, s, r⟩ := (Rep.list r)
  obtain ⟨G, J, eG, sG, rG, j0, js, jd⟩ := k a vs H1 e1 s r
  refine ⟨a, rfl, ⟨vs, s⟩, for_list (K := K) (a := a) (xs := vs) (fun i σ' H' => Ex G H' ∧ J i σ' H') ⟨eG, j0⟩ (fun i σ' H' _ z => Evl.ex_l z.1 sG) (fun i v σ' H' hi z => ?_) (fun σ' H' z => ?_)⟩
  · obtain ⟨x, hx, rx⟩ := rG.got hi
    exact js i x v σ' H' hx z.1 rx z.2
  · rw [r.len] at z
    exact jd σ' H' z.1 z.2
/-- .. over a list that a name holds and that stands in G -/
theorem s_forV {xs : List α} {n : Nat} {v : V} {g : TG} {tb : TS} (hσ : σ[n]? = some (some v)) (r : Rep K G v xs) (e : Ex G H) (J : Nat → L2.St → Hp → Prop) (j0 : J 0 σ H)
    (js : ∀ i x w σ' H', xs[i]? = some x → Ex G H' → Rep K G w x → J i σ' H' → g w σ' H' fun σ2 H2 => tb { D with nx := fun σ3 H3 => Ex G H3 ∧ J (i + 1) σ3 H3, ct := fun σ3 H3 => Ex G H3 ∧ J (i + 1) σ3 H3, bk := D.nx } σ2 H2)
    (jd : ∀ σ' H', Ex G H' → J xs.length σ' H' → D.nx σ' H') : tFor (iList K (tVar n)) g tb D σ H := by
  obtain ⟨a, vs, rfl, sG, rG⟩ := Rep.list r
  refine ⟨_, hσ, a, rfl, ⟨vs, Evl.ex_l e sG⟩, for_list (K := K) (a := a) (xs := vs) (fun i σ' H' => Ex G H' ∧ J i σ' H') ⟨e, j0⟩ (fun i σ' H' _ z => Evl.ex_l z.1 sG) (fun i w σ' H' hi z => ?_) (fun σ' H' z => ?_)⟩
  · obtain ⟨x, hx, rx⟩ := rG.got hi
    exact js i x w σ' H' hx z.1 rx z.2
  · rw [rG.len] at z
    exact jd σ' H' z.1 z.2
theorem s_forT {xs : Tp α} {g : TG} {tb : TS} (h : ER K te σ H xs) (k : ∀ a vs H1, Ex H H1 → SqT K H1 a vs → Reps K H1 vs (α := α) xs → ∃ (G : Hp) (J : Nat → L2.St → Hp → Prop), Ex G H1 ∧ SqT K G a vs ∧ Reps K G vs (α := α) xs ∧ J 0 σ H1 ∧
      (∀ i x v σ' H', (show List α from xs)[i]? = some x → Ex G H' → Rep K G v x → J i σ' H' → g v σ' H' fun σ2 H2 => tb { D with nx := fun σ3 H3 => Ex G H3 ∧ J (i + 1) σ3 H3, ct := fun σ3 H3 => Ex G H3 ∧ J (i + 1) σ3 H3, bk := D.nx } σ2 H2) ∧
      (∀ σ' H', Ex G H' → J (List.length xs) σ' H' → D.nx σ' H')) : tFor (iTup K te) g tb D σ H := h H (Ex.refl H) _ fun v H1 e1 r => by
  obtain ⟨a, vs, rfl, s, r⟩ := (Rep.tup r)
  obtain ⟨G, J, eG, sG, rG, j0, js, jd⟩ := k a vs H1 e1 s r
  refine ⟨a, rfl, ⟨vs, s⟩, for_tup (K := K) (a := a) (xs := vs) (fun i σ' H' => Ex G H' ∧ J i σ' H') ⟨eG, j0⟩ (fun i σ' H' _ z => Evl.ex_t z.1 sG) (fun i v σ' H' hi z => ?_) (fun σ' H' z => ?_)⟩
  · obtain ⟨x, hx, rx⟩ := rG.got hi
    exact js i x v σ' H' hx z.1 rx z.2
  · rw [r.len] at z
    exact jd σ' H' z.1 z.2
/-- for k in range(n) -/
theorem s_rng {n : Int} {ta : TE} {g : TG} {tb : TS} (h : ER K ta σ H n) (hn : n < 2 ^ 62) (hn0 : -(2 ^ 62) ≤ n) (k : ∀ H1, Ex H H1 → ∃ (G : Hp) (J : Nat → L2.St → Hp → Prop), Ex G H1 ∧ J 0 σ H1 ∧
      (∀ (i : Nat) σ' H', i < n.toNat → Ex G H' → J i σ' H' → g (.int (i : Int)) σ' H' fun σ2 H2 => tb { D with nx := fun σ3 H3 => Ex G H3 ∧ J (i + 1) σ3 H3, ct := fun σ3 H3 => Ex G H3 ∧ J (i + 1) σ3 H3, bk := D.nx } σ2 H2) ∧
      (∀ σ' H', Ex G H' → J n.toNat σ' H' → D.nx σ' H')) : tFor (iRng1 (tCons ta tNil)) g tb D σ H := h.evI H (Ex.refl H) _ fun H1 e1 => by
  obtain ⟨G, J, eG, j0, js, jd⟩ := k H1 e1
  refine ⟨n, rfl, hn0, hn, for_range (lo := 0) (n := n.toNat) (fun i σ' H' => Ex G H' ∧ J i σ' H') ⟨eG, j0⟩ (fun i σ' H' hi z => ?_) (fun σ' H' z => jd σ' H' z.1 z.2)⟩
  rw [Int.zero_add]
  exact js i σ' H' hi z.1 z.2
theorem s_rng2 {lo hi : Int} {ta tc : TE} {g : TG} {tb : TS} (h : ER K ta σ H lo) (h' : ER K tc σ H hi) (hb : -(2 ^ 62) ≤ lo ∧ lo < 2 ^ 62 ∧ -(2 ^ 62) ≤ hi ∧ hi < 2 ^ 62) (k : ∀ H1, Ex H H1 → ∃ (G : Hp) (J : Nat → L2.St → Hp → Prop), Ex G H1 ∧ J 0 σ H1 ∧
      (∀ (i : Nat) σ' H', i < (hi - lo).toNat → Ex G H' → J i σ' H' → g (.int (lo + (i : Int))) σ' H' fun σ2 H2 => tb { D with nx := fun σ3 H3 => Ex G H3 ∧ J (i + 1) σ3 H3, ct := fun σ3 H3 => Ex G H3 ∧ J (i + 1) σ3 H3, bk := D.nx } σ2 H2) ∧
      (∀ σ' H', Ex G H' → J (hi - lo).toNat σ' H' → D.nx σ' H')) : tFor (iRng2 (tCons ta (tCons tc tNil))) g tb D σ H := h.evI H (Ex.refl H) _ fun H0 e0 => h'.evI H0 e0 _ fun H1 e1 => by
  obtain ⟨G, J, eG, j0, js, jd⟩ := k H1 (e0.trans e1)
  exact ⟨lo, hi, rfl, hb, for_range (lo := lo) (n := (hi - lo).toNat) (fun i σ' H' => Ex G H' ∧ J i σ' H') ⟨eG, j0⟩ (fun i σ' H' hi z => js i σ' H' hi z.1 z.2) (fun σ' H' z => jd σ' H' z.1 z.2)⟩
end
/-! ### comprehensions -/
section
variable {K : PySem.W.Frag} {α β : Type} [Dat α] [Dat β] {σ : L2.St} {G H : Hp} {te tl : TE} {tt : TT} {i : Nat}
theorem wipe1 (v : Option V) : wipe ((wipe σ [i]).set i v) [i] = wipe σ [i] := by
  show (((σ.set i none).set i v).set i none) = σ.set i none
  rw [List.set_set, List.set_set]
/-- [f(x) for x in xs] -/
theorem el_map {xs : List α} {f : α → β} [Flat β] (h : ER K tl σ H xs) (he : ∀ x v H', x ∈ xs → Ex H H' → Rep K H' v x → ER K te ((wipe σ [i]).set i (some v)) H' (f x)) (hz : xs.length ≤ 100000) :
    EL K (tLc (iList K tl) (gName i) tYes te [i]) σ H (xs.map f) := fun H0 e0 Q q => h H0 e0 _ fun v H1 e1 r => by
  obtain ⟨a, vs, rfl, s, r⟩ := (Rep.list r)
  refine ⟨a, rfl, ⟨vs, s⟩, fun D hD => lc_list (K := K) (a := a) (xs := vs) (fun j H' => Ex H1 H' ∧ Own K H' D ((xs.take j).map f)) ⟨Evl.Ex.new hD, by simpa using Own.nil⟩ (fun j H' _ z => Evl.ex_l z.1 s) (fun j v H' hj z => ?_) (fun H' z => ?_)⟩
  · obtain ⟨x, hx, rx⟩ := r.got hj
    have hlt : j < xs.length := (List.getElem?_eq_some_iff.mp hx).1
    refine ⟨wipe1 _, he x v H' (List.mem_of_getElem? hx) (e0.trans (e1.trans z.1)) (rx.mono z.1) H' (Ex.refl H') _ fun w H2 e2 rw' => ?_⟩
    obtain ⟨acc, h1, r1⟩ := (z.2.mono e2).ex
    refine ⟨acc, h1, Evl.sz_lt (by rw [r1.len, List.length_map, List.length_take]; omega), ex_mut (z.1.trans e2) hD, acc ++ [w], upd_same, ?_⟩
    rw [cut_upd, show xs.take (j + 1) = xs.take j ++ [x] by rw [List.take_succ, hx]; rfl, List.map_append]
    exact r1.append (Reps.cons (rw'.imm (Tups.cut h1)) reps_nil)
  · have e : xs.take vs.length = xs := by rw [r.len, List.take_length]
    rw [e] at z
    exact q D H' (fresh_back e1 hD) (e1.trans z.1) z.2
/-- [f(x) for x in xs if p(x)] -/
theorem el_filter {xs : List α} {f : α → β} {p : α → Bool} [Flat β] (h : ER K tl σ H xs) (ht : ∀ x v H', x ∈ xs → Ex H H' → Rep K H' v x → ET K tt ((wipe σ [i]).set i (some v)) H' (p x))
    (he : ∀ x v H', x ∈ xs → p x = true → Ex H H' → Rep K H' v x → ER K te ((wipe σ [i]).set i (some v)) H' (f x)) (hz : xs.length ≤ 100000) :
    EL K (tLc (iList K tl) (gName i) tt te [i]) σ H ((xs.filter p).map f) := fun H0 e0 Q q => h H0 e0 _ fun v H1 e1 r => by
  obtain ⟨a, vs, rfl, s, r⟩ := (Rep.list r)
  refine ⟨a, rfl, ⟨vs, s⟩, fun D hD => lc_list (K := K) (a := a) (xs := vs) (fun j H' => Ex H1 H' ∧ Own K H' D (((xs.take j).filter p).map f)) ⟨Evl.Ex.new hD, by simpa using Own.nil⟩ (fun j H' _ z => Evl.ex_l z.1 s) (fun j v H' hj z => ?_) (fun H' z => ?_)⟩
  · obtain ⟨x, hx, rx⟩ := r.got hj
    have hlt : j < xs.length := (List.getElem?_eq_some_iff.mp hx).1
    have hm := List.mem_of_getElem? hx
    refine ⟨wipe1 _, ht x v H' hm (e0.trans (e1.trans z.1)) (rx.mono z.1) H' (Ex.refl H') _ fun H2 e2 => ?_⟩
    have et : xs.take (j + 1) = xs.take j ++ [x] := by rw [List.take_succ, hx]; rfl
    cases hp : p x with
    | false =>
      refine (if_neg Bool.false_ne_true).mpr ⟨z.1.trans e2, ?_⟩
      rw [et, List.filter_append, List.filter_cons_of_neg (by simp [hp]), List.filter_nil, List.append_nil]
      exact z.2.mono e2
    | true =>
      refine (if_pos rfl).mpr (he x v H2 hm hp (e0.trans ((e1.trans z.1).trans e2)) (rx.mono (z.1.trans e2)) H2 (Ex.refl H2) _ fun w H3 e3 rw' => ?_)
      obtain ⟨acc, h1, r1⟩ := (z.2.mono (e2.trans e3)).ex
      refine ⟨acc, h1, Evl.sz_lt ?_, ex_mut (z.1.trans (e2.trans e3)) hD, acc ++ [w], upd_same, ?_⟩
      · rw [r1.len, List.length_map]
        have := List.length_filter_le p (xs.take j)
        rw [List.length_take] at this
        omega
      · rw [cut_upd, et, List.filter_append, List.filter_cons_of_pos (by simp [hp]), List.filter_nil, List.map_append]
        exact r1.append (Reps.cons (rw'.imm (Tups.cut h1)) reps_nil)
  · have e : xs.take vs.length = xs := by rw [r.len, List.take_length]
    rw [e] at z
    exact q D H' (fresh_back e1 hD) (e1.trans z.1) z.2
/-- [f(k) for k in range(n)] -/
theorem el_rmapN {n : Int} {ta : TE} {f : Nat → β} [Flat β] (h : ER K ta σ H n) (hn0 : -100000 ≤ n) (hz : n ≤ 100000) (he : ∀ (k : Nat) H', (k : Int) < n → Ex H H' → ER K te ((wipe σ [i]).set i (some (.int k))) H' (f k)) :
    EL K (tLc (iRng1 (tCons ta tNil)) (gName i) tYes te [i]) σ H ((List.range n.toNat).map f) := fun H0 e0 Q q => h.evI H0 e0 _ fun H1 e1 => by
  refine ⟨n, rfl, by omega, by omega, fun D hD => lc_range (lo := 0) (n := n.toNat) (fun j H' => Ex H1 H' ∧ Own K H' D ((List.range j).map f)) ⟨Evl.Ex.new hD, by simpa using Own.nil⟩ (fun j H' hj z => ?_) (fun H' z => ?_)⟩
  · rw [Int.zero_add]
    refine ⟨wipe1 _, he j H' (by omega) (e0.trans (e1.trans z.1)) H' (Ex.refl H') _ fun w H2 e2 rw' => ?_⟩
    obtain ⟨acc, h1, r1⟩ := (z.2.mono e2).ex
    refine ⟨acc, h1, Evl.sz_lt (by rw [r1.len, List.length_map, List.length_range]; omega), ex_mut (z.1.trans e2) hD, acc ++ [w], upd_same, ?_⟩
    rw [cut_upd, List.range_succ, List.map_append]
    exact r1.append (Reps.cons (rw'.imm (Tups.cut h1)) reps_nil)
  · exact q D H' (fresh_back e1 hD) (e1.trans z.1) z.2
theorem el_rmap {n : Int} {ta : TE} {f : Nat → β} [Flat β] (h : ER K ta σ H n) (hn0 : 0 ≤ n) (hz : n ≤ 100000) (he : ∀ (k : Nat) H', (k : Int) < n → Ex H H' → ER K te ((wipe σ [i]).set i (some (.int k))) H' (f k)) :
    EL K (tLc (iRng1 (tCons ta tNil)) (gName i) tYes te [i]) σ H ((List.range n.toNat).map f) := el_rmapN h (by omega) hz he
theorem el_rfilterN {n : Int} {ta : TE} {f : Nat → β} {p : Nat → Bool} [Flat β] (h : ER K ta σ H n) (hn0 : -100000 ≤ n) (hz : n ≤ 100000) (ht : ∀ (k : Nat) H', (k : Int) < n → Ex H H' → ET K tt ((wipe σ [i]).set i (some (.int k))) H' (p k))
    (he : ∀ (k : Nat) H', (k : Int) < n → p k = true → Ex H H' → ER K te ((wipe σ [i]).set i (some (.int k))) H' (f k)) :
    EL K (tLc (iRng1 (tCons ta tNil)) (gName i) tt te [i]) σ H (((List.range n.toNat).filter p).map f) := fun H0 e0 Q q => h.evI H0 e0 _ fun H1 e1 => by
  refine ⟨n, rfl, by omega, by omega, fun D hD => lc_range (lo := 0) (n := n.toNat) (fun j H' => Ex H1 H' ∧ Own K H' D (((List.range j).filter p).map f)) ⟨Evl.Ex.new hD, by simpa using Own.nil⟩ (fun j H' hj z => ?_) (fun H' z => ?_)⟩
  · rw [Int.zero_add]
    refine ⟨wipe1 _, ht j H' (by omega) (e0.trans (e1.trans z.1)) H' (Ex.refl H') _ fun H2 e2 => ?_⟩
    cases hp : p j with
    | false =>
      refine (if_neg Bool.false_ne_true).mpr ⟨z.1.trans e2, ?_⟩
      rw [List.range_succ, List.filter_append, List.filter_cons_of_neg (by simp [hp]), List.filter_nil, List.append_nil]
      exact z.2.mono e2
    | true =>
      refine (if_pos rfl).mpr (he j H2 (by omega) hp (e0.trans ((e1.trans z.1).trans e2)) H2 (Ex.refl H2) _ fun w H3 e3 rw' => ?_)
      obtain ⟨acc, h1, r1⟩ := (z.2.mono (e2.trans e3)).ex
      refine ⟨acc, h1, Evl.sz_lt ?_, ex_mut (z.1.trans (e2.trans e3)) hD, acc ++ [w], upd_same, ?_⟩
      · rw [r1.len, List.length_map]
        have := List.length_filter_le p (List.range j)
        rw [List.length_range] at this
        omega
      · rw [cut_upd, List.range_succ, List.filter_append, List.filter_cons_of_pos (by simp [hp]), List.filter_nil, List.map_append]
        exact r1.append (Reps.cons (rw'.imm (Tups.cut h1)) reps_nil)
  · exact q D H' (fresh_back e1 hD) (e1.trans z.1) z.2
theorem el_rfilter {n : Int} {ta : TE} {f : Nat → β} {p : Nat → Bool} [Flat β] (h : ER K ta σ H n) (hn0 : 0 ≤ n) (hz : n ≤ 100000) (ht : ∀ (k : Nat) H', (k : Int) < n → Ex H H' → ET K tt ((wipe σ [i]).set i (some (.int k))) H' (p k))
    (he : ∀ (k : Nat) H', (k : Int) < n → p k = true → Ex H H' → ER K te ((wipe σ [i]).set i (some (.int k))) H' (f k)) :
    EL K (tLc (iRng1 (tCons ta tNil)) (gName i) tt te [i]) σ H (((List.range n.toNat).filter p).map f) := el_rfilterN h (by omega) hz ht he
end
end Z
set_option Elab.async false
set_option linter.all false
set_option maxRecDepth 100000
set_option maxHeartbeats 2000000
namespace Z
open PySem PySem.Spec PyProof.Rows L2
/-! ### t[::-1], t a tuple; xs * n, xs a list -/
section
variable {prog : Program} {w : World} {A : Around} {E : Value → Shared → Prop} {s : Shared}
theorem places_rev (n : Nat) : Builtin.Slice.slicePlaces ((n : Int) - 1) (-1) (-1) = n := by
  unfold Builtin.Slice.slicePlaces
  rw [if_neg (by decide)]
  by_cases h : (n : Int) - 1 > -1
  · rw [if_pos h, show (-(-1) : Int) = 1 by decide, Int.ediv_one]
    omega
  · rw [if_neg h]
    omega
theorem sliceApplied_rev {sl : Addr} {vs : Value} {n : Nat} {Q : Int × Int × Nat → Shared → Prop} (hs : s.heap.IsSliceOf sl .none .none vs) (ps : IsPart vs (some (-1)))
    (h : Q ((n : Int) - 1, -1, n) s) : wpAny (model prog w) A (Builtin.Slice.sliceApplied (.ref sl) (pure (n : Int))) Q E s := by
  obtain ⟨os, hos, hcs, hds⟩ := id hs
  unfold Builtin.Slice.sliceApplied Builtin.Slice.sliceFields
  refine wpAny_bind (wpAny_bind (wpAny_field hos hds (x := .none) rfl (wpAny_bind (wpAny_field hos hds (x := .none) rfl (wpAny_bind (wpAny_field hos hds (x := vs) rfl (wpAny_pure ?_)))))))
  refine wpAny_bind (HT.slicePart_ ps ?_)
  show wpAny _ _ (if ((-1 : Int) == 0) = true then _ else _) _ _ s
  rw [if_neg (by decide)]
  refine wpAny_bind (HT.slicePart_ .none (wpAny_bind (HT.slicePart_ .none (wpAny_bind (wpAny_pure ?_)))))
  show wpAny _ _ (pure ((n : Int) - 1, (-1 : Int), Builtin.Slice.slicePlaces ((n : Int) - 1) (-1) (-1))) _ _ s
  rw [places_rev]
  exact wpAny_pure h
theorem pick_rev (xs : Array Value) : ((List.range xs.size).filterMap fun (k : Nat) => xs[(((xs.size : Int) - 1) + (k : Int) * (-1)).toNat]?).toArray = xs.toList.reverse.toArray := by
  have e : ((List.range xs.size).filterMap fun (k : Nat) => xs[(((xs.size : Int) - 1) + (k : Int) * (-1)).toNat]?) = ((List.range xs.size).map fun k => xs.size - 1 - k).filterMap (xs[·]?) := by
    rw [List.filterMap_map]
    congr 1
    funext k
    have : (((xs.size : Int) - 1) + (k : Int) * (-1)).toNat = xs.size - 1 - k := by omega
    show xs[_]? = xs[xs.size - 1 - k]?
    rw [this]
  rw [e, PySem.W.krv_range, List.filterMap_reverse, PySem.W.krv_all]
theorem getItem_tuple_rev {t sl : Addr} {items : Array Value} {vs : Value} {Q : Value → Shared → Prop} (ht : IsTup s.heap t items) (hs : s.heap.IsSliceOf sl .none .none vs) (ps : IsPart vs (some (-1)))
    (h : Q (.ref s.heap.objs.size) { s with heap := s.heap.push { cls := .type "tuple", data := .seq items.toList.reverse.toArray } })
    (hsz : items.size ≤ sizeLine) : wpAny (model prog w) A (getItem (.ref t) (.ref sl)) Q E s := by
  have htake : sizeOk (.seq items.toList.reverse.toArray) := by
    show items.toList.reverse.toArray.size ≤ sizeLine
    rw [List.size_toArray, List.length_reverse, Array.length_toList]
    exact hsz
  obtain ⟨os, hos, hcs, hds⟩ := id hs
  have hTs : s.TypeIs (.ref sl) "slice" := ⟨os, hos, hcs⟩
  unfold getItem
  try with_reducible refine wpAny_holding ?_
  first | refine wpAny_bind (wpAny_pure ?_) | skip
  refine wpAny_bind (wpAny_sequenceKey ht.typeIs (by decide) ?_)
  refine wpAny_bind (wpAny_callSpecial?_slot (name := Str.ofString "__getitem__") ht.typeIs PyProof.Rows.slot_tuple_getitem
    (wpAny_call_entry PyProof.Rows.slot_tuple_getitem ht.typeIs entry_tuple_getitem ?_ (args_tuple_getitem _ _)))
  show wpAny _ _ (Builtin.Tuple.tupleItemsOf (.ref t) >>= _) _ _ s
  refine wpAny_bind (PyProof.Rows.tupleItemsOf_ ht ?_)
  refine wpAny_bind (wpAny_typeOf hTs ?_)
  rw [if_pos (by decide)]
  refine wpAny_bind (sliceApplied_rev hs ps ?_)
  have hno : ¬ ((((items.size : Int) - 1 == 0) && (-1 : Int) == 1 && items.size == items.size) = true) := by
    intro q
    rw [Bool.and_eq_true, Bool.and_eq_true] at q
    exact absurd q.1.2 (by decide)
  show wpAny _ _ (if (((items.size : Int) - 1 == 0) && (-1 : Int) == 1 && items.size == items.size) = true then _ else _) _ _ s
  rw [if_neg hno, pick_rev]
  first
    | exact wpAny_bind (m := Builtin.Tuple.tupleExact _) (wpAny_newObj_type (wpAny_pure ⟨_, rfl, wpAny_pure h⟩) htake)
    | exact wpAny_bind (m := Builtin.Tuple.tupleExact _) (wpAny_newObj_type (wpAny_bind (wpAny_pure (wpAny_pure ⟨_, rfl, wpAny_pure h⟩))) htake)
    | exact wpAny_bind (wpAny_bind (m := Builtin.Tuple.tupleExact _) (wpAny_newObj_type (wpAny_pure (wpAny_pure ⟨_, rfl, wpAny_pure h⟩)) htake))
    | exact wpAny_bind (wpAny_bind (m := Builtin.Tuple.tupleExact _) (wpAny_newObj_type (wpAny_pure ⟨_, rfl, wpAny_pure h⟩) htake))
end
def tRevT (K : PySem.W.Frag) (te : TE) : TE := fun σ H Q => te σ H fun x H1 => ∃ a xs, x = .ref a ∧ SqT K H1 a xs ∧ ∀ p, H1 p = none → Q (.ref p) (upd H1 p (.tup xs.reverse))
theorem pe_revT {X : Cx} {e : Expr} {te : TE} {k : Nat} {p1 p2 p3 pos : Pos} (he : PE X e te) : PE X (.Subscript e (.Slice none none (some (.UnaryOp .USub (.Constant (.int 1) k p1) p2)) p3) pos) (tRevT X.K te) := by
  refine ⟨fun pins s σ H Q I h => ?_⟩
  refine Subscript_ (thn (he.run pins s σ H _ I h) fun v s1 ⟨x, H1, I1, r1, q1⟩ => ?_)
  obtain ⟨a, xs, ex, hx, q⟩ := q1
  subst ex
  cases r1
  have hst : PO X (some (.UnaryOp .USub (.Constant (.int 1) k p1) p2)) (tPart (tUn (rU fun i => .int (-i)) (tC (.int 1)))) := po_some (pe_un un_neg pe_int)
  refine wpAny_Slice (thn (po_none.run pins s1 σ H1 (fun o H2 => o = none ∧ H2 = H1) I1 ⟨rfl, rfl⟩) fun vl s2 ⟨l, H2, I2, pl, el, e2⟩ => ?_)
  subst el e2
  refine thn (po_none.run pins s2 σ H2 (fun o H3 => o = none ∧ H3 = H2) I2 ⟨rfl, rfl⟩) fun vu s3 ⟨u, H3, I3, pu, eu, e3⟩ => ?_
  subst eu e3
  refine thn (hst.run pins s3 σ H3 (fun o H4 => o = some (-1) ∧ H4 = H3) I3 ⟨1, rfl, -1, rfl, rfl, rfl⟩) fun vs s4 ⟨o, H4, I4, ps, eo, e4⟩ => ?_
  subst eo e4
  have I5 : Inv X pins σ H4 { s4 with heap := s4.heap.push { cls := .type "slice", data := .fields #[vl, vu, vs] } } := I4.kept (t' := s4.toks) fun b ob q => Heap.get?_push_of_some _ q
  obtain ⟨its, r, ht, hz⟩ := I5.tuple hx
  have hlen := r.length
  show wpAny (model X.prog X.w) X.A (subscriptTail e (.Slice none none (some (.UnaryOp .USub (.Constant (.int 1) k p1) p2)) p3) (.ref a) (.ref s4.heap.objs.size)) (EP X pins σ Q) X.xe { s4 with heap := s4.heap.push { cls := .type "slice", data := .fields #[vl, vu, vs] } }
  refine tail_any (ops := [.ref a, .ref s4.heap.objs.size]) ht.typeIs (PyProof.Rows.slot_tuple_getitem.lookup) ?_ (by with_unfolding_all rfl)
  cases pl
  cases pu
  refine getItem_tuple_rev ht (Heap.IsSliceOf.new _ .none .none vs) ps ?_ (by rw [List.size_toArray]; omega)
  refine ⟨.ref _, _, I5.laid (t' := s4.toks) (o := .tup xs.reverse) (fun b ob q => Heap.get?_push_of_some _ q) (Nat.le_refl _) ?_, rfl, q _ (I5.hok.fresh (Nat.le_refl _))⟩
  exact ⟨by rw [List.length_reverse]; exact hz, _, r.reverse, IsTup.new _ _⟩
theorem k_pe_revT {K : PySem.W.Frag} {X : Cx} {x : Expr} {te : TE} (e : X.K = K) (h : PE X x (tRevT X.K te)) : PE X x (tRevT K te) := e ▸ h
end Z
namespace Z
open PySem L2
open Evl (Ex)
open Dat
section
variable {K : PySem.W.Frag} {α : Type} [Dat α] {σ : L2.St} {H : Hp} {ta tb : TE}
theorem er_revT {xs : Tp α} (ha : ER K ta σ H xs) : ER K (tRevT K ta) σ H (show Tp α from List.reverse (α := α) xs) := fun H1 e Q q =>
  ha H1 e _ fun v H2 e2 r => by
    obtain ⟨a, vs, rfl, s, r⟩ := (Rep.tup r)
    exact ⟨a, vs, rfl, s, fun p hp => q _ _ (e2.trans (Evl.Ex.new hp)) (rep_tup upd_same (r.reverse.mono (Evl.Ex.new hp)))⟩
theorem reps_rep {vs : List V} {xs : List α} (r : Reps K H vs xs) (k : Nat) : Reps K H (List.replicate k vs).flatten (List.replicate k xs).flatten := by
  induction k with
  | zero => exact reps_nil
  | succ k ih =>
    rw [List.replicate_succ, List.replicate_succ, List.flatten_cons, List.flatten_cons]
    exact Reps.append r ih
theorem el_rep {xs : List α} {n : Int} (ha : EL K ta σ H xs) (hb : ER K tb σ H n) (h0 : n ≤ 100000) (h1 : -100000 ≤ n) (hz : xs.length * n.toNat ≤ 100000) : EL K (tOp rRep ta tb) σ H (List.replicate n.toNat xs).flatten := fun H1 e Q q =>
  ha H1 e _ fun p H2 hp e2 o => hb.evI H2 (e.trans e2) _ fun H3 e3 => by
    obtain ⟨vs, h, r⟩ := (o.mono e3).ex
    refine ⟨p, n, vs, rfl, rfl, h, by omega, by omega, Evl.sz_of (by rw [r.len]; exact hz), fun t ht => q t _ (fresh_back (e2.trans e3) ht) ((e2.trans e3).trans (Evl.Ex.new ht)) ⟨_, upd_same, ?_⟩⟩
    rw [cut_updn ht]
    exact reps_rep (r.mono (cut_ex (H := H3) (p := p))) _
end
end Z
set_option Elab.async false
set_option linter.all false
set_option maxRecDepth 100000
set_option maxHeartbeats 2000000
/-! Z: defs that may be called where an exception is handled (they walk nothing, raise nothing). -/
namespace Z
open PySem PySem.Spec PyProof.Rows L2
structure RoomW (k : Nat) (A : Around) : Prop where
  dp : A.depth + 3 * k + 5 < recursionLimit
  un : A.units + 16 * k + 200 < cLine
theorem RoomW.deeper {k : Nat} {A : Around} (r : RoomW (k + 1) A) (env : Env) : RoomW k (A.deeper env) :=
  ⟨by have := r.dp; show A.depth + 1 + 3 * k + 5 < _; omega, by have := r.un; show A.units + 3 + 16 * k + 200 < _; omega⟩
theorem RoomW.depth {k : Nat} {A : Around} (r : RoomW k A) : A.depth < recursionLimit := by have := r.dp; omega
theorem RoomW.units {k : Nat} {A : Around} (r : RoomW k A) : A.units + 64 < cLine := by have := r.un; omega
theorem RoomW.mono {j k : Nat} {A : Around} (r : RoomW k A) (h : j ≤ k) : RoomW j A := ⟨by have := r.dp; omega, by have := r.un; omega⟩
theorem roomW {j k : Nat} {A : Around} {v : Option Value} (r : Room k A) (h : j ≤ k) : RoomW j (A.mark v) := ⟨by have := r.dp; show A.depth + 3 * j + 5 < _; omega, by have := r.un; show A.units + 16 * j + 200 < _; omega⟩
structure FnW (P : Program) (w : World) (K : PySem.W.Frag) (mg : Str → Option Value) (base : Heap) (CX : CXT) (k : Nat) (f : Addr) (fd : FuncData) (ps : List Str) (sp : Sp) : Prop where
  len : ∀ vs H Q E, sp vs H Q E → vs.length = ps.length
  run : ∀ (A : Around) (outer : List Env) (s : Shared) (H : Hp) (args : Args) (us : List Value) (vs : List V) (Q : VK) (E : XK), RoomW k A → Env0 P w K mg base A outer s H → BindsTo s fd args (ps.zip us) → Vals vs us → sp vs H Q E →
    codeAny (model P w) A (.call (.ref f) args) (CR CX outer P w H s Q E) s
theorem FnW.ok {P : Program} {w : World} {K : PySem.W.Frag} {mg : Str → Option Value} {base : Heap} {CX : CXT} {k : Nat} {f : Addr} {fd : FuncData} {ps : List Str} {sp : Sp} (F : FnW P w K mg base CX k f fd ps sp) : FnOk P w K mg base CX k f fd ps sp :=
  ⟨F.len, fun A outer s H args us vs Q E hr => F.run A outer s H args us vs Q E ⟨hr.dp, hr.un⟩⟩
def cxW (CX : CXT) (P : Program) (w : World) (K : PySem.W.Frag) (mg : Str → Option Value) (base : Heap) (N : List Str) (qual : Str) (scope : Scope) (f : Addr) (cd : Value) (A : Around) (outer : List Env) (s : Shared) (H : Hp) (E : XK) : Cx :=
  { cxOf CX P w K mg base N qual scope f cd A outer s H E with calm := false }
theorem inv_startW {CX : CXT} {P : Program} {w : World} {K : PySem.W.Frag} {mg : Str → Option Value} {base : Heap} {N ps : List Str} {qual : Str} {scope : Scope} {f : Addr} {cd : Value} {A : Around} {outer : List Env} {s s1 : Shared} {H : Hp} {E : XK} {us : List Value} {vs : List V}
    (S : FnScope N ps scope) (e0 : Env0 P w K mg base A outer s H) (hl : vs.length = ps.length) (r : Vals vs us)
    (x : InCallC s s.heap.objs.size (bindL (envOfC qual scope s.heap.objs.size f cd).kindOf (ps.zip us) fun _ => none) (cellsFrom (s.heap.objs.size + 1) scope.names []) (bindC (envOfC qual scope s.heap.objs.size f cd).kindOf (ps.zip us) fun _ => none) s1) :
    Inv (cxW CX P w K mg base N qual scope f cd A outer s H E) [] (L2.start N vs) H s1 := by
  have hpl : ps.length ≤ N.length := by have := congrArg List.length S.pre; rw [List.length_take] at this; omega
  obtain ⟨h1, tk, rfl, hk⟩ := x.done
  have noA : ∀ b : Addr, b ∉ (cxW CX P w K mg base N qual scope f cd A outer s H E).ex := fun b z => absurd (show b ∈ ([] : List Addr) from z) (by simp)
  refine ⟨⟨e0.mod, S.kind, rfl, rfl, Nat.le_refl _, fun y z c h1 h2 => ?_, fun y hy => ?_, fun y c _ h => ?_, (fun z => Bool.noConfusion (show false = true from z)), Around.frames_deeper e0.frames, .inr ⟨rfl, rfl⟩, fun b z => absurd z (noA b), e0.bs, e0.bsz, fun b _ _ => noA b, fun b z => absurd z (noA b), e0.funs, e0.frf⟩,
    rfl, e0.bare, Un.kept hk, ⟨_, x.toInCall.ns, fun i y v h1 h2 h3 => ?_⟩, fun y c h => ⟨_, x.cell y c h⟩, e0.hok.fresh (Nat.le_refl _), fun y c h => ?_, fun q hq => absurd (show q ∈ ([] : List (Addr × Obj)) from hq) (by simp), e0.hok.kept hk, ?_⟩
  · exact name_of_addr x.apart (PySem.mem_of_lookup h1) (PySem.mem_of_lookup h2)
  · have hy : scope.names.lookup y = some .cell ∨ scope.names.lookup y = some .free := hy
    rcases hy with hy | hy
    · exact cell_has hy
    · exact absurd rfl (S.nofree _ (PySem.mem_of_lookup hy))
  · exact Nat.le_of_lt (x.above y c (PySem.mem_of_lookup h))
  · have hi : i < vs.length := by
      unfold L2.start at h2
      by_cases hi : i < vs.length
      · exact hi
      · rw [List.getElem?_append_right (by simpa using hi)] at h2
        rw [List.getElem?_replicate] at h2
        split at h2 <;> cases h2
    have ha : vs[i]? = some v := by
      unfold L2.start at h2
      rw [List.getElem?_append_left (by simpa using hi), List.getElem?_map] at h2
      cases e : vs[i]? with
      | none => rw [e] at h2; cases h2
      | some a => rw [e] at h2; cases h2; rfl
    obtain ⟨u, hu, rv⟩ := r.get ha
    have hp : ps[i]? = some y := by
      rw [← S.pre, List.getElem?_take_of_lt (by omega)]; exact h1
    have ndP : ps.Nodup := by rw [← S.pre]; exact S.nd.sublist (List.take_sublist _ _)
    refine ⟨u, rv, ?_⟩
    rcases S.par y (List.mem_of_getElem? hp) with k | k
    · exact .inl ⟨k, bindL_get ndP hp hu k⟩
    · obtain ⟨c, e⟩ := cell_has (n := s.heap.objs.size + 1) k
      refine .inr ⟨.inl k, c, e, ?_⟩
      have q := x.cell y c e
      rw [bindC_get ndP hp hu (by show scope.names.lookup y ≠ _; rw [k]; decide)] at q
      exact q
  · exact e0.hok.fresh (Nat.le_of_lt (x.above y c (PySem.mem_of_lookup h)))
  · unfold L2.start
    show _ = N.length
    rw [List.length_append, List.length_map, List.length_replicate]
    omega
theorem fun_okW {CX : CXT} {P : Program} {w : World} {K : PySem.W.Frag} {mg : Str → Option Value} {base : Heap} {k : Nat} {f : Addr} {fd : FuncData} {x qual : Str} {st : Stmt} {N ps : List Str} {sp : Sp} (F : Fun K x qual st f fd) (S : FnScope N ps (defScope st))
    (len : ∀ vs H Q E, sp vs H Q E → vs.length = ps.length)
    (hbody : ∀ (cdv : Value) (A : Around) (outer : List Env) (s : Shared) (H : Hp) (vs : List V) (Q : VK) (E : XK), RoomW k (A.deeper (envOfC qual (defScope st) s.heap.objs.size f cdv)) → sp vs H Q E →
      ∃ t, PSs (cxW CX P w K mg base N qual (defScope st) f cdv A outer s H E) (defBody st) t ∧ t { nx := fun _ H' => Q .non H', rt := Q } (L2.start N vs) H) : FnW P w K mg base CX (k + 1) f fd ps sp := by
  obtain ⟨oc, od, kV, doc, pm, an, cdv, ct, osl, rfl, lk, hcd⟩ := F.ex
  refine ⟨len, fun A outer s H args us vs Q E hr e0 hb r hsp => ?_⟩
  have hl := len _ _ _ _ hsp
  have KX : K.In s.heap := e0.mod.kin.keeps fun b o e => (e0.bs b o e).1
  have lim : s.heap.NoLimit := e0.mod.nolimit.keeps fun b o e => (e0.bs b o e).1
  have hkind : ∀ y ∈ ps.zip us, (defScope st).names.lookup y.1 = some .local ∨ ((defScope st).names.lookup y.1 = some .cell ∧ ((cellsFrom (s.heap.objs.size + 1) (defScope st).names []).lookup y.1).isSome = true) := fun ⟨n, v⟩ hy => by
    rcases S.par n (List.of_mem_zip hy).1 with q | q
    · exact .inl q
    · exact .inr ⟨q, PySem.W.cellsFrom_some _ _ _ (.inl q)⟩
  refine codeAny_call_function hr.depth (KX _ _ lk) rfl S.co S.gen rfl (PySem.W.codeRec_of KX hcd) (hb _ _ _ _ ?_)
  refine wpAny_newFunctionEnv_cells S.kind hkind fun env he s1 x => ?_
  subst he
  refine ⟨lim.keeps x.toInCall.keep, codeAny_func ?_⟩
  obtain ⟨t, ht, hq⟩ := hbody cdv A outer s H vs Q E (hr.deeper _) hsp
  have I : Inv (cxW CX P w K mg base N qual (defScope st) f cdv A outer s H E) [] (L2.start N vs) H s1 := inv_startW S e0 hl r x
  refine wpAny_mono (ht.run [] s1 (L2.start N vs) H _ I hq) (fun fl s' hs => ?_) fun e s' hs => hs
  have fin : ∀ {σ' : L2.St} {H' : Hp} {v : V} {u : Value}, Inv (cxW CX P w K mg base N qual (defScope st) f cdv A outer s H E) [] σ' H' s' → RelV v u → Q v H' → CE outer P w H s Q u s' :=
    fun {σ' H' v u} J rv q => ⟨v, H', J.os, J.bare, J.base, J.hok, rv, q⟩
  cases fl with
  | ret u =>
    obtain ⟨v, σ', H', J, rv, q⟩ := hs
    exact fin J rv q
  | next =>
    obtain ⟨σ', H', J, q⟩ := hs
    exact fin (v := V.non) (u := Value.none) J rfl q
  | brk =>
    obtain ⟨_, _, _, q⟩ := hs
    exact False.elim q
  | cont =>
    obtain ⟨_, _, _, q⟩ := hs
    exact False.elim q
section
variable {X : Cx} {CX : CXT} {k : Nat} {f C : Addr} {fd : FuncData} {ps : List Str} {sp : Sp} {E : XK} {x m : Str} {q pos apos : Pos} {e o : Expr} {es : List Expr} {ta : TE} {t : TA}
theorem run_fnW {pins : List (Addr × Obj)} {σ : L2.St} {H : Hp} {s : Shared} {Q : VK} {us : List Value} {vs : List V} (F : FnW X.prog X.w X.K X.mg X.base CX k f fd ps sp) (hr : RoomW k X.A) (hb : Binds X.K fd ps []) (hx : Passes CX X E)
    (I : Inv X pins σ H s) (r : Vals vs us) (h : sp vs H Q E) : wpAny (model X.prog X.w) X.A (call (.ref f) us) (EP X pins σ Q) X.xe s := by
  have hl : us.length = ps.length := by rw [← r.length]; exact F.len _ _ _ _ h
  have b := hb s us I.kIn (by rw [List.append_nil]; exact hl)
  rw [List.append_nil] at b
  refine wpAny_call (codeAny_mono (F.run X.A X.stack s H ⟨us, []⟩ us vs Q E hr I.env0 b r h) fun r s' hq => ?_)
  cases r with
  | error e => exact hx pins σ H s e s' I hq
  | ok fl =>
    cases fl with
    | ret u => exact I.after hq
    | next => exact False.elim hq
    | brk => exact False.elim hq
    | cont => exact False.elim hq
theorem pe_callW (F : FnW X.prog X.w X.K X.mg X.base CX k f fd ps sp) (hr : RoomW k X.A) (hg : Gl X x) (hm : X.mg x = some (.ref f)) (hk : PySem.W.keepIn X.K (.ref f) = true) (hb : Binds X.K fd ps []) (hx : Passes CX X E)
    (ha : PA X (e :: es) t) (hdb : (x == ("__debug__" : Str)) = false := by decide) (he : starEach (e :: es) X.env = (false, eval e X.env) :: starEach es X.env := by rfl) (hpl : (backTo pos (starEach es X.env)).any (·.1) = false := by rfl) :
    PE X (.Call (.Name x q) (e :: es) [] pos) (tCall sp [] E t) := by
  refine ⟨fun pins s σ H Q I h => ?_⟩
  refine wpAny_Call_Name_kw (ld_glob I hg hm ?_ hdb)
  refine PySem.W.callWith_K (h₀ := X.base) I.ok.mod.kin hk (thn (ha.run pos pins s σ H _ I h) fun us s1 ⟨vs, H1, I1, r, q⟩ => ⟨I1.kIn, ?_⟩) he hpl
  have q : sp (vs ++ []) H1 Q E := q
  rw [List.append_nil] at q
  exact run_fnW F hr hb hx I1 r q
end
end Z
set_option Elab.async false
set_option linter.all false
set_option maxRecDepth 100000
set_option maxHeartbeats 2000000
set_option autoImplicit false
namespace Z
open PySem L2
open Evl (Ex)
open Dat
section
variable {K : PySem.W.Frag} {α β γ δ : Type} [Dat α] [Dat β] [Dat γ] [Dat δ] {σ : L2.St} {G H H' : Hp} {te ta tb tc td : TE} {tt tu : TT} {i j : Int}
theorem er_add (ha : ER K ta σ H i) (hb : ER K tb σ H j) : ER K (tOp (rI0 fun a b => .int (a + b)) ta tb) σ H (i + j) := er_I0 (g := fun a b => a + b) ha hb
theorem er_sub (ha : ER K ta σ H i) (hb : ER K tb σ H j) : ER K (tOp (rI0 fun a b => .int (a - b)) ta tb) σ H (i - j) := er_I0 (g := fun a b => a - b) ha hb
theorem er_mul (ha : ER K ta σ H i) (hb : ER K tb σ H j) (hc : CMul i j) : ER K (tOp (rI CMul fun a b => .int (a * b)) ta tb) σ H (i * j) := er_I (g := fun a b => a * b) ha hb hc
theorem er_fdiv (ha : ER K ta σ H i) (hb : ER K tb σ H j) (hc : CDiv i j) : ER K (tOp (rI CDiv fun a b => .int (a / b)) ta tb) σ H (i / j) := er_I (g := fun a b => a / b) ha hb hc
theorem er_mod (ha : ER K ta σ H i) (hb : ER K tb σ H j) (hc : 0 < j) : ER K (tOp (rI (fun _ j => 0 < j) fun a b => .int (a % b)) ta tb) σ H (i % j) := er_I (g := fun a b => a % b) ha hb hc
theorem er_pow (ha : ER K ta σ H i) (hb : ER K tb σ H j) (hc : CPow i j) : ER K (tOp (rI CPow fun a b => .int (a ^ b.toNat)) ta tb) σ H (i ^ j.toNat) := er_I (g := fun a b => a ^ b.toNat) ha hb hc
theorem er_lt (ha : ER K ta σ H i) (hb : ER K tb σ H j) : ER K (tOp (rI0 fun a b => .bl (decide (a < b))) ta tb) σ H (decide (i < j)) := er_IB (g := fun a b => decide (a < b)) ha hb
theorem er_le (ha : ER K ta σ H i) (hb : ER K tb σ H j) : ER K (tOp (rI0 fun a b => .bl (decide (a ≤ b))) ta tb) σ H (decide (i ≤ j)) := er_IB (g := fun a b => decide (a ≤ b)) ha hb
theorem er_gt (ha : ER K ta σ H i) (hb : ER K tb σ H j) : ER K (tOp (rI0 fun a b => .bl (decide (b < a))) ta tb) σ H (decide (j < i)) := er_IB (g := fun a b => decide (b < a)) ha hb
theorem er_ge (ha : ER K ta σ H i) (hb : ER K tb σ H j) : ER K (tOp (rI0 fun a b => .bl (decide (b ≤ a))) ta tb) σ H (decide (j ≤ i)) := er_IB (g := fun a b => decide (b ≤ a)) ha hb
theorem er_isN : ER K ta σ H () → ER K (tOp (fun x y H Q => y = .non ∧ Q (.bl (decide (x = .non))) H) ta (tC .non)) σ H true := fun ha H1 e Q q => ha H1 e _ fun v H2 e2 r => ⟨rfl, by rw [(Rep.unit r)]; exact q _ H2 e2 (rep_bool _)⟩
/-- a list of ints that is read, the script -/
theorem er_seqix {xs : List Int} {a : Addr} (hs : SqL K G a (xs.map V.int)) (e : Ex G H) (ha : EV K ta σ H (.ref a)) (hb : ER K tb σ H i) {x : Int} (hx : atI xs i = some x) : ER K (tOp (rIxL K) ta tb) σ H x :=
  er_ixL (xs := xs) (ha.er (rep_list (Evl.ex_l e hs) (reps_ints xs))) hb hx
theorem atI_map {xs : List α} {f : α → β} {i : Int} {x : α} (h : atI xs i = some x) : atI (xs.map f) i = some (f x) := by
  unfold atI at h ⊢
  rw [List.length_map]
  cases e : ixN xs.length i with
  | none => rw [e] at h; cases h
  | some j =>
    rw [e] at h
    show (xs.map f)[j]? = some (f x)
    rw [List.getElem?_map, show xs[j]? = some x from h]
    rfl
theorem atI_nn {xs : List α} {i : Int} (h0 : 0 ≤ i) (h1 : i < xs.length) : ∃ x, atI xs i = some x ∧ xs[i.toNat]? = some x := by
  have hl : i.toNat < xs.length := by omega
  refine ⟨xs[i.toNat], ?_, by simp [hl]⟩
  have e : ixN xs.length i = some i.toNat := by
    unfold ixN
    rw [if_pos h0, if_pos h1]
  unfold atI
  rw [e]
  simp [hl]
theorem atI_toNat {xs : List α} {i : Int} {x : α} (h0 : 0 ≤ i) (h : xs[i.toNat]? = some x) : atI xs i = some x := by
  have hl := (List.getElem?_eq_some_iff.mp h).1
  have e : ixN xs.length i = some i.toNat := by
    unfold ixN
    rw [if_pos h0, if_pos (by omega)]
  unfold atI
  rw [e]
  exact h
theorem atI_m1 {xs : List α} {x : α} (h : xs.getLast? = some x) : atI xs (-1) = some x := by
  have hne : xs ≠ [] := by intro e; rw [e] at h; cases h
  obtain ⟨ys, rfl⟩ : ∃ ys, xs = ys ++ [x] := by
    refine ⟨xs.dropLast, ?_⟩
    have e := List.dropLast_concat_getLast hne
    rw [List.getLast?_eq_some_getLast hne] at h
    rw [← Option.some.inj h]
    exact e.symm
  exact atI_last ys x
/-! ### isinstance -/
theorem kitOf {a b : String} {r : Bool} (h : kitB a b = some r) : PySem.W.kitOne K (.type a) (.type b) = some r := kit_ty h
theorem tyx_list {v : V} {xs : List α} (h : Rep K H v xs) : TyX K H v (.type "list") := by
  obtain ⟨a, vs, rfl, s, _⟩ := h.list
  rcases s with (s | ⟨o, s⟩) | ⟨o, its, n, s, c, _⟩
  · exact .base (.lst s)
  · exact .base (.frz s)
  · exact .kList s c
theorem tyx_tup {v : V} {xs : Tp α} (h : Rep K H v xs) : TyX K H v (.type "tuple") := by
  obtain ⟨a, vs, rfl, s, _⟩ := h.tup
  rcases s with (s | ⟨o, s⟩) | ⟨o, its, n, s, c, _⟩
  · exact .base (.tup s)
  · exact .fTuple s
  · exact .kTuple s c
theorem tyx_pair {v : V} {x : α × β} (h : Rep K H v x) : TyX K H v (.type "tuple") := by
  obtain ⟨a, u, w, rfl, s, _⟩ := h.pair
  rcases s with (s | ⟨o, s⟩) | ⟨o, its, n, s, c, _⟩
  · exact .base (.tup s)
  · exact .fTuple s
  · exact .kTuple s c
theorem tyx_int {v : V} {x : Int} (h : Rep K H v x) : TyX K H v (.type "int") := by rw [h.int]; exact .base (.int x)
theorem tyx_bool {v : V} {x : Bool} (h : Rep K H v x) : TyX K H v (.type "bool") := by rw [h.bool]; exact .base (.bl x)
theorem tyx_str {v : V} {x : Str} (h : Rep K H v x) : TyX K H v (.type "str") := by rw [h.str]; exact .base (.str x)
theorem er_isi {x : α} {n m : String} {b : Bool} (ty : ∀ H v, Rep K H v x → TyX K H v (.type n)) (hk : kitB n m = some b) (ha : ER K ta σ H x) : ER K (tCB (rIsi K) (tCons ta (tCons (tC (.ty m)) tNil))) σ H b := fun H1 e Q q =>
  ha H1 e _ fun v H2 e2 r => ⟨v, .ty m, .type n, .type m, b, rfl, .ty m, ty H2 v r, kitOf hk, q _ H2 e2 (rep_bool _)⟩
theorem er_isi_list {xs : List α} (ha : ER K ta σ H xs) : ER K (tCB (rIsi K) (tCons ta (tCons (tC (.ty "list")) tNil))) σ H true := er_isi (fun _ _ => tyx_list) (by decide +kernel) ha
theorem er_isi_tup {xs : Tp α} (ha : ER K ta σ H xs) : ER K (tCB (rIsi K) (tCons ta (tCons (tC (.ty "tuple")) tNil))) σ H true := er_isi (fun _ _ => tyx_tup) (by decide +kernel) ha
theorem er_isi_pair {x : α × β} (ha : ER K ta σ H x) : ER K (tCB (rIsi K) (tCons ta (tCons (tC (.ty "tuple")) tNil))) σ H true := er_isi (fun _ _ => tyx_pair) (by decide +kernel) ha
theorem er_isi_int (ha : ER K ta σ H i) : ER K (tCB (rIsi K) (tCons ta (tCons (tC (.ty "int")) tNil))) σ H true := er_isi (fun _ _ => tyx_int) (by decide +kernel) ha
theorem er_isi_intb (ha : ER K ta σ H i) : ER K (tCB (rIsi K) (tCons ta (tCons (tC (.ty "bool")) tNil))) σ H false := er_isi (fun _ _ => tyx_int) (by decide +kernel) ha
theorem er_isi_bool {b : Bool} (ha : ER K ta σ H b) : ER K (tCB (rIsi K) (tCons ta (tCons (tC (.ty "bool")) tNil))) σ H true := er_isi (fun _ _ => tyx_bool) (by decide +kernel) ha
theorem er_isi_booli {b : Bool} (ha : ER K ta σ H b) : ER K (tCB (rIsi K) (tCons ta (tCons (tC (.ty "int")) tNil))) σ H true := er_isi (fun _ _ => tyx_bool) (by decide +kernel) ha
/-! ### [x] * n -/
theorem el_rep1 {x : α} {n : Int} (ha : EL K ta σ H [x]) (hb : ER K tb σ H n) (h0 : n ≤ 100000) (h1 : -100000 ≤ n) : EL K (tOp rRep ta tb) σ H (List.replicate n.toNat x) := fun H1 e Q q =>
  ha H1 e _ fun p H2 hp e2 o => hb.evI H2 (e.trans e2) _ fun H3 e3 => by
    obtain ⟨vs, h, r⟩ := (o.mono e3).ex
    obtain ⟨v, ws, rfl, r1, r2⟩ := Reps.inv r
    obtain rfl := Reps.nilI r2
    refine ⟨p, n, [v], rfl, rfl, h, by omega, by omega, Evl.sz_of (by rw [List.length_singleton]; omega), fun t ht => q t _ (fresh_back (e2.trans e3) ht) ((e2.trans e3).trans (Evl.Ex.new ht)) ⟨_, upd_same, ?_⟩⟩
    rw [cut_updn ht]
    have r1' := r1.mono (cut_ex (H := H3) (p := p))
    generalize n.toNat = k
    induction k with
    | zero => exact reps_nil
    | succ k ih =>
      rw [List.replicate_succ, List.replicate_succ, List.flatten_cons]
      exact Reps.append (Reps.cons r1' reps_nil) ih
end
/-! ### equality of data -/
section
variable {α : Type} [Dat α]
theorem eqvAll_map [DecidableEq α] [DatEq α] : ∀ xs ys : List α, PyData.eqvAll (xs.map enc) (ys.map enc) = decide (xs = ys)
  | [], [] => by simp [PyData.eqvAll]
  | [], y :: ys => by simp [PyData.eqvAll]
  | x :: xs, [] => by simp [PyData.eqvAll]
  | x :: xs, y :: ys => by
    show (PyData.eqv (enc x) (enc y) && PyData.eqvAll (xs.map enc) (ys.map enc)) = _
    rw [DatEq.eqv, eqvAll_map xs ys]
    by_cases h : x = y <;> by_cases h' : xs = ys <;> simp [h, h']
theorem lay_map [DecidableEq α] [DatEq α] : ∀ xs : List α, PyData.canLayAll0 (xs.map enc) = true
  | [] => rfl
  | x :: xs => by
    show ((enc x).canLay0 && PyData.canLayAll0 (xs.map enc)) = true
    rw [DatEq.lay, lay_map xs] <;> rfl
end
instance : DatEq Int := ⟨fun _ => rfl, fun x y => by
  show PyData.eqv (.int x) (.int y) = _
  simp [PyData.eqv, Bool.beq_eq_decide_eq]⟩
instance : DatEq Bool := ⟨fun _ => rfl, fun x y => by
  show PyData.eqv (.bool x) (.bool y) = _
  simp [PyData.eqv, Bool.beq_eq_decide_eq]⟩
instance {α : Type} [Dat α] [DecidableEq α] [DatEq α] : DatEq (List α) := ⟨fun xs => by
  show (PyData.list (xs.map enc)).canLay0 = true
  exact lay_map xs, fun xs ys => by
  show PyData.eqv (.list (xs.map enc)) (.list (ys.map enc)) = _
  rw [PyData.eqv]
  exact eqvAll_map xs ys⟩
instance {α : Type} [Dat α] [DecidableEq α] [DatEq α] : DatEq (Tp α) := ⟨fun xs => by
  show (PyData.tuple (List.map enc xs)).canLay0 = true
  exact lay_map (α := α) xs, fun xs ys => by
  show PyData.eqv (.tuple (List.map enc xs)) (.tuple (List.map enc ys)) = _
  rw [PyData.eqv]
  exact eqvAll_map (α := α) xs ys⟩
instance {α β : Type} [Dat α] [Dat β] [DecidableEq α] [DecidableEq β] [DatEq α] [DatEq β] : DatEq (α × β) := ⟨fun x => by
  show ((enc x.1).canLay0 && ((enc x.2).canLay0 && true)) = true
  rw [DatEq.lay, DatEq.lay] <;> rfl, fun x y => by
  show PyData.eqv (.tuple [enc x.1, enc x.2]) (.tuple [enc y.1, enc y.2]) = _
  rw [PyData.eqv]
  show (PyData.eqv (enc x.1) (enc y.1) && (PyData.eqv (enc x.2) (enc y.2) && true)) = _
  rw [DatEq.eqv, DatEq.eqv]
  obtain ⟨x1, x2⟩ := x
  obtain ⟨y1, y2⟩ := y
  by_cases h : x1 = y1 <;> by_cases h' : x2 = y2 <;> simp [h, h']⟩
theorem depth_map {α : Type} [Dat α] {n : Nat} [Deep α n] : ∀ xs : List α, PyData.depthAll (xs.map enc) ≤ n
  | [] => by
    show PyData.depthAll [] ≤ n
    rw [PyData.depthAll]
    exact Nat.zero_le _
  | x :: xs => by
    show PyData.depthAll (enc x :: xs.map enc) ≤ n
    rw [PyData.depthAll]
    exact Nat.max_le.mpr ⟨Deep.dep x, depth_map xs⟩
instance : Deep Int 0 := ⟨fun x => by
  show PyData.depth (.int x) ≤ 0
  rw [PyData.depth]
  exact Nat.le_refl _⟩
instance : Deep Bool 0 := ⟨fun x => by
  show PyData.depth (.bool x) ≤ 0
  rw [PyData.depth]
  exact Nat.le_refl _⟩
instance : Deep Str 0 := ⟨fun x => by
  show PyData.depth (.str x) ≤ 0
  rw [PyData.depth]
  exact Nat.le_refl _⟩
instance {α : Type} [Dat α] {n : Nat} [Deep α n] : Deep (List α) (n + 1) := ⟨fun xs => by
  show PyData.depth (.list (xs.map enc)) ≤ n + 1
  rw [PyData.depth]
  exact Nat.succ_le_succ (depth_map xs)⟩
instance {α : Type} [Dat α] {n : Nat} [Deep α n] : Deep (Tp α) (n + 1) := ⟨fun xs => by
  show PyData.depth (.tuple (List.map enc xs)) ≤ n + 1
  rw [PyData.depth]
  exact Nat.succ_le_succ (depth_map (α := α) xs)⟩
instance {α β : Type} [Dat α] [Dat β] {n m : Nat} [Deep α n] [Deep β m] : Deep (α × β) (max n m + 1) := ⟨fun x => by
  show PyData.depth (.tuple [enc x.1, enc x.2]) ≤ max n m + 1
  rw [PyData.depth, PyData.depthAll, PyData.depthAll, PyData.depthAll]
  have h1 := Deep.dep (n := n) x.1
  have h2 := Deep.dep (n := m) x.2
  omega⟩
end Z
set_option Elab.async false
set_option linter.all false
set_option maxRecDepth 100000
set_option maxHeartbeats 2000000
set_option autoImplicit false
namespace Z
open PySem L2
open Evl (Ex)
open Dat
section
variable {K : PySem.W.Frag} {α β γ δ : Type} [Dat α] [Dat β] [Dat γ] [Dat δ] {σ : L2.St} {G H H' : Hp} {te ta tb tc td : TE} {tt tu : TT} {i j : Int} {t u : TS} {D : Ends}
theorem dpall_get {vs : List V} {ds : List PyData} (h : DqAll K H vs ds) {j : Nat} {d : PyData} (hd : ds[j]? = some d) : ∃ v, vs[j]? = some v ∧ Dq K H v d := by
  induction vs generalizing ds j with
  | nil => cases h; cases hd
  | cons v vs ih =>
    cases h with
    | cons h1 h2 =>
      cases j with
      | zero => cases hd; exact ⟨v, rfl, h1⟩
      | succ j => exact ih h2 hd
theorem dpall_at {vs : List V} {ds : List PyData} (h : DqAll K H vs ds) {i : Int} {d : PyData} (hd : atI ds i = some d) : ∃ v, atI vs i = some v ∧ Dq K H v d := by
  unfold atI at hd ⊢
  rw [DqAll.len h]
  cases e : ixN ds.length i with
  | none => rw [e] at hd; cases hd
  | some j =>
    rw [e] at hd
    exact dpall_get h hd
/-- a list that stands tracked, new or held -/
def EM (K : PySem.W.Frag) (te : TE) (σ : L2.St) (H : Hp) (xs : List α) : Prop := ∀ H1, Ex H H1 → ∀ Q : VK, (∀ p H2, Ex H1 H2 → Own K H2 p xs → Q (.ref p) H2) → te σ H1 Q
theorem EL.em {xs : List α} (h : EL K te σ H xs) : EM K te σ H xs := fun H1 e Q q => h H1 e Q fun p H2 _ e2 o => q p H2 e2 o
theorem em_own {n : Nat} {p : Addr} {xs : List α} (h : σ[n]? = some (some (.ref p))) (r : Own K G p xs) (e : Ex G H) : EM K (tVar n) σ H xs := fun H1 e1 Q q => ⟨_, h, q p H1 (Ex.refl H1) (r.mono (e.trans e1))⟩
theorem el_add {xs ys : List α} (ha : EM K ta σ H xs) (hb : EM K tb σ H ys) (hl : xs.length + ys.length ≤ 100000) : EL K (tOp rCat ta tb) σ H (xs ++ ys) := fun H1 e Q q =>
  ha H1 e _ fun p H2 e2 o => hb H2 (e.trans e2) _ fun r H3 e3 o2 => by
    obtain ⟨vs, h1, r1⟩ := (o.mono e3).ex
    obtain ⟨ws, h2, r2⟩ := o2.ex
    refine ⟨p, r, vs, ws, rfl, rfl, h1, h2, Evl.sz_of (by rw [r1.len, r2.len]; exact hl), fun t ht => q t _ (fresh_back (e2.trans e3) ht) ((e2.trans e3).trans (Evl.Ex.new ht)) ⟨_, upd_same, ?_⟩⟩
    rw [cut_updn ht]
    exact (r1.mono cut_ex).append (r2.mono cut_ex)
/-- truth of a list -/
theorem et_truL {xs : List α} (h : ER K te σ H xs) : ET K (fun σ H Q => te σ H fun x H' => ∃ k, TruV K x H' k ∧ Q k H') σ H (!xs.isEmpty) := fun H1 e Q q => h H1 e _ fun v H2 e2 r => by
  obtain ⟨a, vs, rfl, s, r⟩ := Rep.list r
  refine ⟨_, .inl ⟨vs, s, rfl⟩, ?_⟩
  have : vs.isEmpty = xs.isEmpty := by
    have e := r.len
    cases vs <;> cases xs <;> first | rfl | simp at e
  rw [this]
  exact q H2 e2
theorem et_orU {a b : Bool} (h1 : ET K tt σ H a) (h2 : ET K tu σ H b) : ET K (tOr tt tu) σ H (a || b) := et_or h1 fun _ => h2
theorem et_andU {a b : Bool} (h1 : ET K tt σ H a) (h2 : ET K tu σ H b) : ET K (tAnd tt tu) σ H (a && b) := et_and h1 fun _ => h2
theorem er_orU {a b : Bool} (h1 : ER K ta σ H a) (h2 : ER K tb σ H b) : ER K (tOrV ta tb) σ H (a || b) := er_orV h1 fun _ => h2
theorem er_andU {a b : Bool} (h1 : ER K ta σ H a) (h2 : ER K tb σ H b) : ER K (tAndV ta tb) σ H (a && b) := er_andV h1 fun _ => h2
/-! ### with no word of the type: the shape of the datum says it -/
theorem dl_tyx {v : V} {ds : List PyData} (h : Dq K H v (.list ds)) : TyX K H v (.type "list") := by
  cases h with
  | lst s r =>
    rcases s with (s | ⟨o, s⟩) | ⟨o, its, n, s, c, _⟩
    · exact .base (.lst s)
    · exact .base (.frz s)
    · exact .kList s c
theorem dt_tyx {v : V} {ds : List PyData} (h : Dq K H v (.tuple ds)) : TyX K H v (.type "tuple") := by
  cases h with
  | tup s r => exact .base (.tup s)
theorem ed_isi {d : PyData} {n m : String} {b : Bool} (ty : ∀ H v, Dq K H v d → TyX K H v (.type n)) (hk : kitB n m = some b) (ha : ED K ta σ H d) : ER K (tCB (rIsi K) (tCons ta (tCons (tC (.ty m)) tNil))) σ H b := fun H1 e Q q =>
  ha H1 e _ fun v H2 e2 r => ⟨v, .ty m, .type n, .type m, b, rfl, .ty m, ty H2 v r, kitOf hk, q _ H2 e2 (rep_bool _)⟩
theorem ed_isi_list {ds : List PyData} (ha : ED K ta σ H (.list ds)) : ER K (tCB (rIsi K) (tCons ta (tCons (tC (.ty "list")) tNil))) σ H true := ed_isi (fun _ _ => dl_tyx) (by decide +kernel) ha
theorem ed_isi_tup {ds : List PyData} (ha : ED K ta σ H (.tuple ds)) : ER K (tCB (rIsi K) (tCons ta (tCons (tC (.ty "tuple")) tNil))) σ H true := ed_isi (fun _ _ => dt_tyx) (by decide +kernel) ha
theorem ed_ixL {ds : List PyData} {k : Int} {d : PyData} (ha : ED K ta σ H (.list ds)) (hb : ER K tb σ H k) (hx : atI ds k = some d) : ED K (tOp (rIxL K) ta tb) σ H d := fun H1 e Q q =>
  ha H1 e _ fun v H2 e2 r => hb.evI H2 (e.trans e2) _ fun H3 e3 => by
    cases r with
    | lst s r =>
      obtain ⟨w, hw, rw'⟩ := dpall_at r hx
      exact ⟨_, _, k, w, rfl, rfl, Evl.ex_l e3 s, hw, q _ H3 (e2.trans e3) (dp_mono e3 _ _ rw')⟩
theorem ed_ixT {ds : List PyData} {k : Int} {d : PyData} (ha : ED K ta σ H (.tuple ds)) (hb : ER K tb σ H k) (hx : atI ds k = some d) : ED K (tOp (rIxT K) ta tb) σ H d := fun H1 e Q q =>
  ha H1 e _ fun v H2 e2 r => hb.evI H2 (e.trans e2) _ fun H3 e3 => by
    cases r with
    | tup s r =>
      obtain ⟨w, hw, rw'⟩ := dpall_at r hx
      exact ⟨_, _, k, w, rfl, rfl, SqT.of (e3 _ _ s), hw, q _ H3 (e2.trans e3) (dp_mono e3 _ _ rw')⟩
theorem atI_mapE {α : Type} {xs : List α} {f : α → PyData} {i : Int} {x : α} {d : PyData} (h : atI xs i = some x) (e : f x = d) : atI (xs.map f) i = some d := by
  unfold atI at h ⊢
  rw [List.length_map]
  cases q : ixN xs.length i with
  | none => rw [q] at h; cases h
  | some j =>
    rw [q] at h
    show (xs.map f)[j]? = some d
    have h : xs[j]? = some x := h
    rw [List.getElem?_map, h, ← e]
    rfl
/-! ### tests whose answer is known -/
theorem q_ifF {b : Bool} (h : ET K tt σ H b) (hb : b = false) (k : ∀ H', Ex H H' → u D σ H') : tSeq (tIfS tt t tNext) u D σ H := q_if h (fun z => absurd z (by rw [hb]; decide)) fun _ => k
theorem q_ifT {b : Bool} (h : ET K tt σ H b) (hb : b = true) (k : ∀ H', Ex H H' → t { D with nx := u D } σ H') : tSeq (tIfS tt t tNext) u D σ H := q_if h (fun _ => k) fun z => absurd z (by rw [hb]; decide)
theorem s_ifF {b : Bool} (h : ET K tt σ H b) (hb : b = false) (k : ∀ H', Ex H H' → u D σ H') : tIfS tt t u D σ H := s_if h (fun z => absurd z (by rw [hb]; decide)) fun _ => k
theorem s_ifT {b : Bool} (h : ET K tt σ H b) (hb : b = true) (k : ∀ H', Ex H H' → t D σ H') : tIfS tt t u D σ H := s_if h (fun _ => k) fun z => absurd z (by rw [hb]; decide)
theorem atI_ofN {xs : List α} {k : Nat} {x : α} (h : xs[k]? = some x) : atI xs (k : Int) = some x := by
  have hl : k < xs.length := (List.getElem?_eq_some_iff.mp h).1
  unfold atI ixN
  rw [if_pos (Int.natCast_nonneg k), if_pos (by omega)]
  exact h
theorem atI_ex {α : Type} {xs : List α} {k : Nat} (h : k < xs.length) : ∃ x, x ∈ xs ∧ xs[k]? = some x ∧ atI xs (k : Int) = some x := by
  refine ⟨xs[k], List.getElem_mem h, List.getElem?_eq_getElem h, ?_⟩
  unfold atI ixN
  rw [if_pos (Int.natCast_nonneg k), if_pos (by omega)]
  exact List.getElem?_eq_getElem h
theorem atI_last {xs : List α} (h : 0 < xs.length) : ∃ x, atI xs (-1) = some x ∧ xs.getLast? = some x := by
  refine ⟨xs[xs.length - 1]'(by omega), ?_, ?_⟩
  · unfold atI ixN
    rw [if_neg (by decide), if_pos (by omega)]
    rw [show (-1 + (xs.length : Int)).toNat = xs.length - 1 by omega]
    exact List.getElem?_eq_getElem (by omega)
  · rw [List.getLast?_eq_getElem?]
    exact List.getElem?_eq_getElem (by omega)
/-! ### fields -/
theorem ev_fld {a C dx : Addr} {fs : List (Str × V)} {f : Str} {v : V} (h : EV K te σ H (.ref a)) (ha : G a = some (.ins C dx fs)) (e : Ex G H) (cl : Cls K C) (na : NoAttr K C f) (hl : fs.lookup f = some v) : EV K (tFld K te f) σ H v := fun H1 e1 Q q =>
  h H1 e1 _ fun H2 e2 => ⟨a, C, dx, fs, v, rfl, (e.trans (e1.trans e2)) _ _ ha, cl, na, hl, q H2 e2⟩
theorem em_fld {a C dx l : Addr} {fs : List (Str × V)} {f : Str} {xs : List α} (h : EV K te σ H (.ref a)) (ha : G a = some (.ins C dx fs)) (e : Ex G H) (cl : Cls K C) (na : NoAttr K C f) (hl : fs.lookup f = some (.ref l)) (o : Own K G l xs) : EM K (tFld K te f) σ H xs := fun H1 e1 Q q =>
  ev_fld h ha e cl na hl H1 e1 _ fun H2 e2 => q l H2 e2 (o.mono (e.trans (e1.trans e2)))
theorem EM.er {xs : List α} (h : EM K te σ H xs) : ER K te σ H xs := fun H1 e Q q => h H1 e Q fun p H2 e2 o => q _ H2 e2 o.rep
/-! ### for i, x in enumerate(xs) -/
theorem s_enum {xs : List α} {m n : Nat} {tb : TS} (h : ER K te σ H xs) (k : ∀ a vs H1, Ex H H1 → SqL K H1 a vs → Reps K H1 vs xs → ∃ (G : Hp) (J : Nat → L2.St → Hp → Prop), Ex G H1 ∧ SqL K G a vs ∧ Reps K G vs xs ∧ J 0 σ H1 ∧
      (∀ i x w σ' H' H'', xs[i]? = some x → Ex G H' → Ex H' H'' → Rep K G w x → J i σ' H' → tb { D with nx := fun σ3 H3 => Ex G H3 ∧ J (i + 1) σ3 H3, ct := fun σ3 H3 => Ex G H3 ∧ J (i + 1) σ3 H3, bk := D.nx } ((σ'.set m (some (.int (i : Nat)))).set n (some w)) H'') ∧
      (∀ σ' H', Ex G H' → J xs.length σ' H' → D.nx σ' H')) : tFor (iEnum K (tCons te tNil)) (gTup K 2 (gCons (gName m) (gCons (gName n) gNil))) tb D σ H := h H (Ex.refl H) _ fun v H1 e1 r => by
  obtain ⟨a, vs, rfl, s, r⟩ := Rep.list r
  obtain ⟨G, J, eG, sG, rG, j0, js, jd⟩ := k a vs H1 e1 s r
  have hl := rG.len
  refine ⟨a, vs, rfl, s, fun i k' σ' H' => k' = xs.length - i ∧ i ≤ xs.length ∧ Ex G H' ∧ J i σ' H', ⟨_, rfl, Nat.zero_le _, eG, j0⟩, ?_⟩
  rintro i k' σ' H' ⟨rfl, hi, eH, j⟩
  have q := Evl.ex_l eH sG
  by_cases hlt : i < xs.length
  · refine .inr ⟨⟨vs, vs[i]'(by omega), q, by simp [hl, hlt]⟩, fun σ3 H3 => Ex G H3 ∧ J (i + 1) σ3 H3, fun σ3 H3 z => ⟨_, by omega, rfl, hlt, z.1, z.2⟩, ?_⟩
    rintro y H2 ⟨T, x, rfl, hT, rfl, hx⟩
    obtain ⟨z, hz, rz⟩ := rG.got (hx vs q)
    have eT : Ex H' (upd H' T (.tup [.int (i : Nat), x])) := Evl.Ex.new hT
    exact ⟨T, _, rfl, SqT.of upd_same, rfl, _, _, rfl, _, _, rfl, rfl, js i z x σ' H' _ hz eH eT rz j⟩
  · have e : i = xs.length := by omega
    subst e
    exact .inl ⟨⟨vs, q, by omega⟩, jd σ' H' eH j⟩
/-! ### a while -/
theorem s_while (J : L2.St → Hp → Prop) (μ : L2.St → Hp → Nat) {tb : TS} (j0 : J σ H) (js : ∀ σ' H', J σ' H' → ∃ b, ET K tt σ' H' b ∧ (b = true → ∀ H2, Ex H' H2 → tb { D with nx := fun σ3 H3 => J σ3 H3 ∧ μ σ3 H3 < μ σ' H', ct := fun σ3 H3 => J σ3 H3 ∧ μ σ3 H3 < μ σ' H', bk := D.nx } σ' H2) ∧ (b = false → ∀ H2, Ex H' H2 → D.nx σ' H2)) :
    tWhile tt tb D σ H := by
  refine ⟨fun m σ' H' => m = μ σ' H' ∧ J σ' H', ⟨_, rfl, j0⟩, ?_⟩
  rintro m σ' H' ⟨rfl, j⟩
  obtain ⟨b, hb, h1, h2⟩ := js σ' H' j
  refine hb H' (Ex.refl H') _ fun H2 e2 => ?_
  cases b with
  | true =>
    rw [if_pos rfl]
    exact ⟨fun σ3 H3 => J σ3 H3 ∧ μ σ3 H3 < μ σ' H', fun σ3 H3 z => ⟨_, z.2, rfl, z.1⟩, h1 rfl H2 e2⟩
  | false =>
    rw [if_neg Bool.false_ne_true]
    exact h2 rfl H2 e2
/-! ### stores -/
/-- xs[i] = e, xs a name -/
theorem s_put {n : Nat} {p : Addr} {xs : List α} {x : α} {k : Int} {j : Nat} (hσ : σ[n]? = some (some (.ref p))) (ho : Own K H p xs) (h : ER K te σ H x) [Flat α] (hi : ∀ H1, Ex H H1 → EV K tb σ H1 (.int k)) (hj : ixN xs.length k = some j)
    (c : ∀ H', (∀ G, Ex G H → G p = none → Ex G H') → Tups H H' → Own K H' p (xs.set j x) → D.nx σ H') : tAsg te (gSub (tVar n) tb rSetL) D σ H := h H (Ex.refl H) _ fun v H1 e1 r => ⟨_, hσ, hi H1 e1 H1 (Ex.refl H1) _ fun H2 e2 => by
  obtain ⟨vs, h1, r1⟩ := (ho.mono (e1.trans e2)).ex
  refine ⟨p, vs, k, j, rfl, rfl, h1, by rw [r1.len]; exact hj, c _ (fun G eG hG => ex_mut (eG.trans (e1.trans e2)) hG) ((Tups.ex (e1.trans e2)).trans (Tups.upd h1)) ⟨_, upd_same, ?_⟩⟩
  rw [cut_upd]
  exact r1.set j ((r.mono e2).imm (Tups.cut h1))⟩
theorem q_put {n : Nat} {p : Addr} {xs : List α} {x : α} {k : Int} {j : Nat} (hσ : σ[n]? = some (some (.ref p))) (ho : Own K H p xs) (h : ER K te σ H x) [Flat α] (hi : ∀ H1, Ex H H1 → EV K tb σ H1 (.int k)) (hj : ixN xs.length k = some j)
    (c : ∀ H', (∀ G, Ex G H → G p = none → Ex G H') → Tups H H' → Own K H' p (xs.set j x) → u D σ H') : tSeq (tAsg te (gSub (tVar n) tb rSetL)) u D σ H := s_put (D := { D with nx := u D }) hσ ho h hi hj c
theorem ixN_m1 {n : Nat} (h : 0 < n) : ixN n (-1) = some (n - 1) := by
  unfold ixN
  rw [if_neg (by decide), if_pos (by omega)]
  congr 1
  omega
theorem ixN_nn {n : Nat} {k : Int} (h0 : 0 ≤ k) (h1 : k < n) : ixN n k = some k.toNat := by
  unfold ixN
  rw [if_pos h0, if_pos h1]
/-- what an owned list keeps through a change at another one -/
theorem Own.other {p q : Addr} {xs : List α} {o : HO} [Flat α] {ws : List V} (h : Own K H p xs) (hq : H q = some (.lst ws)) (ne : q ≠ p) : Own K (upd H q o) p xs := by
  obtain ⟨vs, h1, r1⟩ := h.ex
  refine ⟨vs, by rw [upd_ne (Ne.symm ne)]; exact h1, ?_⟩
  have hc : cut H p q = some (.lst ws) := by rw [cut_ne ne]; exact hq
  rw [cut_upd_ne ne]
  exact r1.imm (Tups.upd hc)
end
end Z
set_option Elab.async false
set_option linter.all false
set_option maxRecDepth 100000
set_option maxHeartbeats 2000000
set_option autoImplicit false
namespace Z
open PySem L2
open Evl (Ex)
open Dat
section
variable {K : PySem.W.Frag} {α β : Type} [Dat α] [Dat β] {σ : L2.St} {G H : Hp} {te : TE} {tt : TT} {t u : TS} {D : Ends} {i : Nat}
theorem q_for {xs : List α} {g : TG} {tb : TS} (h : ER K te σ H xs) (k : ∀ a vs H1, Ex H H1 → SqL K H1 a vs → Reps K H1 vs xs → ∃ (G : Hp) (J : Nat → L2.St → Hp → Prop), Ex G H1 ∧ SqL K G a vs ∧ Reps K G vs xs ∧ J 0 σ H1 ∧
      (∀ i x v σ' H', xs[i]? = some x → Ex G H' → Rep K G v x → J i σ' H' → g v σ' H' fun σ2 H2 => tb { D with nx := fun σ3 H3 => Ex G H3 ∧ J (i + 1) σ3 H3, ct := fun σ3 H3 => Ex G H3 ∧ J (i + 1) σ3 H3, bk := u D } σ2 H2) ∧
      (∀ σ' H', Ex G H' → J xs.length σ' H' → u D σ' H')) : tSeq (tFor (iList K te) g tb) u D σ H := s_for (D := { D with nx := u D }) h k
theorem q_forV {xs : List α} {n : Nat} {v : V} {g : TG} {tb : TS} (hσ : σ[n]? = some (some v)) (r : Rep K G v xs) (e : Ex G H) (J : Nat → L2.St → Hp → Prop) (j0 : J 0 σ H)
    (js : ∀ i x w σ' H', xs[i]? = some x → Ex G H' → Rep K G w x → J i σ' H' → g w σ' H' fun σ2 H2 => tb { D with nx := fun σ3 H3 => Ex G H3 ∧ J (i + 1) σ3 H3, ct := fun σ3 H3 => Ex G H3 ∧ J (i + 1) σ3 H3, bk := u D } σ2 H2)
    (jd : ∀ σ' H', Ex G H' → J xs.length σ' H' → u D σ' H') : tSeq (tFor (iList K (tVar n)) g tb) u D σ H := s_forV (D := { D with nx := u D }) hσ r e J j0 js jd
theorem q_forT {xs : Tp α} {g : TG} {tb : TS} (h : ER K te σ H xs) (k : ∀ a vs H1, Ex H H1 → SqT K H1 a vs → Reps K H1 vs (α := α) xs → ∃ (G : Hp) (J : Nat → L2.St → Hp → Prop), Ex G H1 ∧ SqT K G a vs ∧ Reps K G vs (α := α) xs ∧ J 0 σ H1 ∧
      (∀ i x v σ' H', (show List α from xs)[i]? = some x → Ex G H' → Rep K G v x → J i σ' H' → g v σ' H' fun σ2 H2 => tb { D with nx := fun σ3 H3 => Ex G H3 ∧ J (i + 1) σ3 H3, ct := fun σ3 H3 => Ex G H3 ∧ J (i + 1) σ3 H3, bk := u D } σ2 H2) ∧
      (∀ σ' H', Ex G H' → J (List.length xs) σ' H' → u D σ' H')) : tSeq (tFor (iTup K te) g tb) u D σ H := s_forT (D := { D with nx := u D }) h k
theorem q_rng {n : Int} {ta : TE} {g : TG} {tb : TS} (h : ER K ta σ H n) (hn : n < 2 ^ 62) (hn0 : -(2 ^ 62) ≤ n) (k : ∀ H1, Ex H H1 → ∃ (G : Hp) (J : Nat → L2.St → Hp → Prop), Ex G H1 ∧ J 0 σ H1 ∧
      (∀ (i : Nat) σ' H', i < n.toNat → Ex G H' → J i σ' H' → g (.int (i : Int)) σ' H' fun σ2 H2 => tb { D with nx := fun σ3 H3 => Ex G H3 ∧ J (i + 1) σ3 H3, ct := fun σ3 H3 => Ex G H3 ∧ J (i + 1) σ3 H3, bk := u D } σ2 H2) ∧
      (∀ σ' H', Ex G H' → J n.toNat σ' H' → u D σ' H')) : tSeq (tFor (iRng1 (tCons ta tNil)) g tb) u D σ H := s_rng (D := { D with nx := u D }) h hn hn0 k
theorem q_rng2 {lo hi : Int} {ta tc : TE} {g : TG} {tb : TS} (h : ER K ta σ H lo) (h' : ER K tc σ H hi) (hb : -(2 ^ 62) ≤ lo ∧ lo < 2 ^ 62 ∧ -(2 ^ 62) ≤ hi ∧ hi < 2 ^ 62) (k : ∀ H1, Ex H H1 → ∃ (G : Hp) (J : Nat → L2.St → Hp → Prop), Ex G H1 ∧ J 0 σ H1 ∧
      (∀ (i : Nat) σ' H', i < (hi - lo).toNat → Ex G H' → J i σ' H' → g (.int (lo + (i : Int))) σ' H' fun σ2 H2 => tb { D with nx := fun σ3 H3 => Ex G H3 ∧ J (i + 1) σ3 H3, ct := fun σ3 H3 => Ex G H3 ∧ J (i + 1) σ3 H3, bk := u D } σ2 H2) ∧
      (∀ σ' H', Ex G H' → J (hi - lo).toNat σ' H' → u D σ' H')) : tSeq (tFor (iRng2 (tCons ta (tCons tc tNil))) g tb) u D σ H := s_rng2 (D := { D with nx := u D }) h h' hb k
theorem q_enum {xs : List α} {m n : Nat} {tb : TS} (h : ER K te σ H xs) (k : ∀ a vs H1, Ex H H1 → SqL K H1 a vs → Reps K H1 vs xs → ∃ (G : Hp) (J : Nat → L2.St → Hp → Prop), Ex G H1 ∧ SqL K G a vs ∧ Reps K G vs xs ∧ J 0 σ H1 ∧
      (∀ i x w σ' H' H'', xs[i]? = some x → Ex G H' → Ex H' H'' → Rep K G w x → J i σ' H' → tb { D with nx := fun σ3 H3 => Ex G H3 ∧ J (i + 1) σ3 H3, ct := fun σ3 H3 => Ex G H3 ∧ J (i + 1) σ3 H3, bk := u D } ((σ'.set m (some (.int (i : Nat)))).set n (some w)) H'') ∧
      (∀ σ' H', Ex G H' → J xs.length σ' H' → u D σ' H')) : tSeq (tFor (iEnum K (tCons te tNil)) (gTup K 2 (gCons (gName m) (gCons (gName n) gNil))) tb) u D σ H := s_enum (D := { D with nx := u D }) h k
theorem q_while (J : L2.St → Hp → Prop) (μ : L2.St → Hp → Nat) {tb : TS} (j0 : J σ H) (js : ∀ σ' H', J σ' H' → ∃ b, ET K tt σ' H' b ∧ (b = true → ∀ H2, Ex H' H2 → tb { D with nx := fun σ3 H3 => J σ3 H3 ∧ μ σ3 H3 < μ σ' H', ct := fun σ3 H3 => J σ3 H3 ∧ μ σ3 H3 < μ σ' H', bk := u D } σ' H2) ∧ (b = false → ∀ H2, Ex H' H2 → u D σ' H2)) : tSeq (tWhile tt tb) u D σ H := s_while (D := { D with nx := u D }) J μ j0 js
/-- an if whose ways meet again in J -/
theorem q_ifJ {b : Bool} {tt : TT} {t u' u : TS} (J : L2.St → Hp → Prop) (k : ∀ σ' H', J σ' H' → u D σ' H') (h : ET K tt σ H b) (k1 : (∀ σ' H', J σ' H' → u D σ' H') → b = true → ∀ H', Ex H H' → t { D with nx := u D } σ H')
    (k2 : (∀ σ' H', J σ' H' → u D σ' H') → b = false → ∀ H', Ex H H' → u' { D with nx := u D } σ H') : tSeq (tIfS tt t u') u D σ H := s_if (D := { D with nx := u D }) h (k1 k) (k2 k)
theorem Own.cut {p q : Addr} {xs : List α} [Flat α] {ws : List V} (h : Own K H p xs) (hq : H q = some (.lst ws)) (ne : q ≠ p) : Own K (Z.cut H q) p xs := by
  obtain ⟨vs, h1, r1⟩ := h.ex
  refine ⟨vs, by rw [cut_ne (Ne.symm ne)]; exact h1, r1.imm ?_⟩
  have hc : Z.cut H p q = some (.lst ws) := by rw [cut_ne ne]; exact hq
  have e : Z.cut (Z.cut H p) q = Z.cut (Z.cut H q) p := by
    funext b
    unfold Z.cut
    split <;> split <;> rfl
  exact e ▸ Tups.cut hc
theorem Own.at {p : Addr} {xs : List α} (h : Own K H p xs) : ∃ vs, H p = some (.lst vs) := by
  obtain ⟨vs, h1, _⟩ := h.ex
  exact ⟨vs, h1⟩
end
end Z
set_option Elab.async false
set_option linter.all false
set_option maxRecDepth 100000
set_option maxHeartbeats 4000000
set_option autoImplicit false
/-! Z: defs of a class that say super().__init__(..): their bodies at their own code. -/
namespace Z
open PySem L2
open PySem.W (ksFn ks_superIn kxs_mw envX)
open PyProof.Rows (envOfC)
/-- the frame of such a def: its class's cell, and its own cells -/
abbrev ksE (name : Str) (scope : Scope) (L a : Addr) (cd : Value) (cc : Addr) : Env := envX name scope L a cd (cellsFrom (L + 1) scope.names [(("__class__" : Str), cc)])
theorem cells_app : ∀ (names : List (Str × NameKind)) (n : Nat) (acc : List (Str × Addr)), cellsFrom n names acc = cellsFrom n names [] ++ acc
  | [], n, acc => rfl
  | (x, k) :: r, n, acc => by
    unfold cellsFrom
    split
    · rw [cells_app r (n + 1) ((x, n) :: acc), cells_app r (n + 1) [(x, n)], List.append_assoc]; rfl
    · exact cells_app r n acc
theorem cells_mem {y : Str × Addr} : ∀ (names : List (Str × NameKind)) (n : Nat) (acc : List (Str × Addr)), y ∈ cellsFrom n names acc → y ∈ acc ∨ (y.1, NameKind.cell) ∈ names
  | [], n, acc, h => .inl h
  | (x, k) :: r, n, acc, h => by
    unfold cellsFrom at h
    split at h
    · rename_i hk
      have hk : k = .cell := by simpa using hk
      subst hk
      rcases cells_mem r (n + 1) _ h with q | q
      · rcases List.mem_cons.mp q with rfl | q
        · exact .inr List.mem_cons_self
        · exact .inl q
      · exact .inr (List.mem_cons_of_mem _ q)
    · exact (cells_mem r n acc h).imp id fun q => List.mem_cons_of_mem _ q
/-- own cells beside the class's -/
structure OwnC (L cc : Nat) (own : List (Str × Addr)) : Prop where
  apart : own.Pairwise fun x y => x.2 ≠ y.2
  above : ∀ n c, (n, c) ∈ own → L < c
  nocls : ∀ c, ((("__class__" : Str), c) : Str × Addr) ∉ own
theorem OwnC.look {L cc : Nat} {own : List (Str × Addr)} (O : OwnC L cc own) {x : Str} (hx : x ≠ ("__class__" : Str)) : (own ++ [(("__class__" : Str), cc)]).lookup x = own.lookup x := by
  rw [List.lookup_append]
  cases own.lookup x with
  | some c => rfl
  | none =>
    have : (x == ("__class__" : Str)) = false := by simpa using hx
    simp [List.lookup, this]
theorem OwnC.cls {L cc : Nat} {own : List (Str × Addr)} (O : OwnC L cc own) : (own ++ [(("__class__" : Str), cc)]).lookup ("__class__" : Str) = some cc := by
  rw [List.lookup_append]
  have : own.lookup ("__class__" : Str) = none := by
    cases e : own.lookup ("__class__" : Str) with
    | none => rfl
    | some c => exact absurd (PySem.mem_of_lookup e) (O.nocls c)
  rw [this]
  simp [List.lookup]
section
variable {M : Model} {A : Around} {E : Value → Shared → Prop} {s₀ s : Shared} {m cm : Str → Option Value} {env : Env} {own : List (Str × Addr)}
theorem st_own {n : Str} {c : Addr} {v : Value} {Q : Unit → Shared → Prop} (x : InCallC s₀ env.locals m own cm s) (hk : env.scope.kind = .function) (hl : env.kindOf n = some .cell)
    (hc : env.cells.lookup n = some c) (ho : own.lookup n = some c)
    (h : ∀ s', InCallC s₀ env.locals m own (fun y => if y = n then some v else cm y) s' → Q () s') : wpAny M A (storeName env n v) Q E s := by
  have hLc := x.above n c (PySem.mem_of_lookup ho)
  refine wpAny_storeName_cell hk hl hc (x.cell n c ho) fun h' hc' hs' => h _ ⟨⟨?_, x.toInCall.ns.sameBut hs' (Nat.ne_of_lt hLc), fun b o e => ?_, x.toInCall.fresh⟩, fun k c' hk' => ?_, x.apart, x.above⟩
  · obtain ⟨h₁, tk, rfl⟩ := x.toInCall.same
    exact ⟨h', _, rfl⟩
  · exact hs'.extBut b o (Nat.ne_of_lt (Nat.lt_trans (Nat.lt_of_lt_of_le (Heap.lt_size e) x.toInCall.fresh) hLc)) (x.toInCall.keep b o e)
  · by_cases hkn : k = n
    · subst hkn
      rw [ho] at hk'; cases hk'
      simpa using hc'
    · rw [if_neg hkn]
      exact (x.cell k c' hk').sameBut hs' fun e => hkn (name_of_addr x.apart (PySem.mem_of_lookup hk') (e ▸ PySem.mem_of_lookup ho))
theorem st_loc {n : Str} {v : Value} {Q : Unit → Shared → Prop} (x : InCallC s₀ env.locals m own cm s) (hk : env.scope.kind = .function) (hl : env.kindOf n = some .local)
    (h : ∀ s', InCallC s₀ env.locals (fun y => if y = n then some v else m y) own cm s' → Q () s') : wpAny M A (storeName env n v) Q E s := by
  refine wpAny_storeName_local hl x.toInCall.ns (fun h' hn' hs' => h _ ⟨⟨?_, hn', fun b o e => ?_, x.toInCall.fresh⟩, fun k c hc => ?_, x.apart, x.above⟩) (by rw [hk]; rfl)
  · obtain ⟨h₁, tk, rfl⟩ := x.toInCall.same
    exact ⟨h', _, rfl⟩
  · exact hs'.extBut b o (Nat.ne_of_lt (Nat.lt_of_lt_of_le (Heap.lt_size e) x.toInCall.fresh)) (x.toInCall.keep b o e)
  · exact (x.cell k c hc).sameBut hs' (Nat.ne_of_gt (x.above k c (PySem.mem_of_lookup hc)))
theorem bind_own (f : Str × Value → PUnit → Sem (ForInStep PUnit)) (hf : ∀ n v u, f (n, v) u = (do storeName env n v; pure (.yield ⟨⟩))) (hk : env.scope.kind = .function) :
    ∀ (binds : List (Str × Value)) (m cm : Str → Option Value) (s : Shared) (Q : PUnit → Shared → Prop), InCallC s₀ env.locals m own cm s →
      (∀ x ∈ binds, env.kindOf x.1 = some .local ∨ (env.kindOf x.1 = some .cell ∧ ∃ c, env.cells.lookup x.1 = some c ∧ own.lookup x.1 = some c)) →
      (∀ s', InCallC s₀ env.locals (bindL env.kindOf binds m) own (bindC env.kindOf binds cm) s' → Q ⟨⟩ s') → wpAny M A (forIn binds ⟨⟩ f) Q E s
  | [], m, cm, s, Q, x, _, h => by rw [List.forIn_nil]; exact wpAny_pure (h s x)
  | (n, v) :: r, m, cm, s, Q, x, hkind, h => by
    rw [List.forIn_cons, hf]
    have hr : ∀ y ∈ r, env.kindOf y.1 = some .local ∨ (env.kindOf y.1 = some .cell ∧ ∃ c, env.cells.lookup y.1 = some c ∧ own.lookup y.1 = some c) := fun y hy => hkind y (List.mem_cons_of_mem _ hy)
    rcases hkind (n, v) List.mem_cons_self with hl | ⟨hl, c, hc, ho⟩
    · refine wpAny_bind (wpAny_bind (st_loc x hk hl fun s' x' => wpAny_pure (bind_own f hf hk r _ _ s' Q x' hr fun s'' x'' => h s'' ?_)))
      unfold bindL bindC; rw [if_pos hl, if_pos hl]; exact x''
    · have hnl : ¬ env.kindOf n = some .local := by rw [hl]; decide
      refine wpAny_bind (wpAny_bind (st_own x hk hl hc ho fun s' x' => wpAny_pure (bind_own f hf hk r _ _ s' Q x' hr fun s'' x'' => h s'' ?_)))
      unfold bindL bindC; rw [if_neg hnl, if_neg hnl]; exact x''
end
section
variable {M : Model} {A : Around} {E : Value → Shared → Prop} {s : Shared}
theorem newEnv_own {scope : Scope} {globals cc : Addr} {binds : List (Str × Value)} {qual : Str} {func : Option Addr} {code : Value} {builtins : Addr} {Q : Env → Shared → Prop}
    (hk : scope.kind = .function) (hnc : ∀ y ∈ scope.names, y.2 = .cell → y.1 ≠ ("__class__" : Str))
    (hkind : ∀ x ∈ binds, scope.names.lookup x.1 = some .local ∨ scope.names.lookup x.1 = some .cell)
    (hQ : ∀ env, env = newEnv scope s.heap.objs.size globals (cellsFrom (s.heap.objs.size + 1) scope.names [(("__class__" : Str), cc)]) qual func code none builtins →
      ∀ s', InCallC s env.locals (bindL env.kindOf binds fun _ => none) (cellsFrom (s.heap.objs.size + 1) scope.names []) (bindC env.kindOf binds fun _ => none) s' →
        OwnC s.heap.objs.size cc (cellsFrom (s.heap.objs.size + 1) scope.names []) → Q env s') :
    wpAny M A (newFunctionEnv scope globals [(("__class__" : Str), cc)] binds qual func code none builtins) Q E s := by
  simp only [newFunctionEnv, Option.isSome_none, Bool.false_eq_true, if_false]
  refine wpAny_bind (wpAny_alloc ?_)
  refine wpAny_bind (wpAny_layCells _ (fun name kind cells => by cases hkc : kind == NameKind.cell <;> simp [hkc]) _ _ _ _ ?_)
  have ok := cellsFrom_ok scope.names (s.heap.push { cls := .type "frame", data := .dict #[] }) (s.heap.objs.size + 1) [] ⟨fun _ _ hm => (nomatch hm), List.Pairwise.nil⟩ (by rw [Heap.size_push]; exact Nat.le_refl _)
  rw [Heap.size_push] at ok
  rw [show ({ s with heap := s.heap.push { cls := .type "frame", data := .dict #[] } } : Shared).heap.objs.size = s.heap.objs.size + 1 from Heap.size_push ..]
  have O : OwnC s.heap.objs.size cc (cellsFrom (s.heap.objs.size + 1) scope.names []) := ⟨ok.apart, fun n c hm => (ok.empty n c hm).2, fun c hm => by
    rcases cells_mem _ _ _ hm with q | q
    · cases q
    · exact hnc _ q rfl rfl⟩
  refine wpAny_bind (bind_own (s₀ := s) (own := cellsFrom (s.heap.objs.size + 1) scope.names []) (env := newEnv scope s.heap.objs.size globals (cellsFrom (s.heap.objs.size + 1) scope.names [(("__class__" : Str), cc)]) qual func code none builtins)
    _ (fun _ _ _ => rfl) hk binds (fun _ => none) (fun _ => none) _ _
    ⟨⟨⟨_, _, rfl⟩, (Heap.Ns.new s.heap (.type "frame")).keeps (pushCells_keeps _ _), fun b o e => pushCells_keeps _ _ b o (Heap.get?_push_of_some _ e), Nat.le_refl _⟩,
      fun n c hc => (ok.empty n c (PySem.mem_of_lookup hc)).1, ok.apart, fun n c hm => (ok.empty n c hm).2⟩
    (fun x hx => ?_) fun s' x => wpAny_pure (hQ _ rfl s' x O))
  refine (hkind x hx).imp id fun q => ⟨q, ?_⟩
  obtain ⟨c, e⟩ := cell_has (n := s.heap.objs.size + 1) q
  refine ⟨c, ?_, e⟩
  show (cellsFrom (s.heap.objs.size + 1) scope.names [(("__class__" : Str), cc)]).lookup x.1 = some c
  rw [cells_app, O.look (hnc _ (PySem.mem_of_lookup q) rfl)]
  exact e
end
/-- the context of such a def's body -/
def cxS (CX : CXT) (P : Program) (w : World) (K : PySem.W.Frag) (mg : Str → Option Value) (base : Heap) (N : List Str) (qual : Str) (scope : Scope) (f : Addr) (cd : Value) (cc : Addr) (A : Around) (outer : List Env) (s : Shared) (H : Hp) (E : XK) : Cx where
  prog := P
  w := w
  K := K
  mg := mg
  base := base
  A := A.deeper (ksE qual scope s.heap.objs.size f cd cc)
  N := N
  s_0 := s
  H_0 := H
  env := ksE qual scope s.heap.objs.size f cd cc
  outer := outer
  stack := ksE qual scope s.heap.objs.size f cd cc :: outer
  ex := []
  calm := true
  fn := fun _ => false
  pn := []
  xe := fun e s' => wpAny (model P w) (A.deeper (ksE qual scope s.heap.objs.size f cd cc)) (leaving (ksE qual scope s.heap.objs.size f cd cc) e) (fun _ s'' => CX outer H s E e s'') (fun e' s'' => CX outer H s E e' s'') s'
/-- a block at its own code -/
structure PSsA (X : Cx) (body sts : List Stmt) (t : TS) : Prop where
  run : ∀ (pins : List (Addr × Obj)) (s : Shared) (σ : L2.St) (H : Hp) (D : Ends), Inv X pins σ H s → t D σ H → PySem.wpAt (model X.prog X.w) X.A (.func body X.env) (execs sts X.env) (SP X pins D) X.xe s
theorem pssa_of {X : Cx} {body sts : List Stmt} {t : TS} (h : PSs X sts t) : PSsA X body sts t := ⟨fun pins s σ H D I q => PySem.wpAt_of_wpAny (h.run pins s σ H D I q)⟩
theorem pssa_cons {X : Cx} {body rest : List Stmt} {st : Stmt} {t u : TS} (h1 : PS X st t) (h2 : PSsA X body rest u) : PSsA X body (st :: rest) (tSeq t u) := by
  refine ⟨fun pins s σ H D I h => ?_⟩
  refine PySem.ks_wpAt_execs_cons (PySem.wpAt_of_wpAny (thn (h1.run pins s σ H { D with nx := u D } I h) fun fl s1 q => ?_))
  cases fl with
  | next =>
    obtain ⟨σ', H', I', q⟩ := q
    exact h2.run pins s1 σ' H' D I' q
  | ret v => exact q
  | brk => exact q
  | cont => exact q
/-- names of such a def: locals and own cells, but the class -/
structure FnScopeS (N P : List Str) (sc : Scope) : Prop where
  kind : sc.kind = .function
  co : sc.isCoroutine = false
  gen : sc.isGenerator = false
  nd : N.Nodup
  pre : N.take P.length = P
  par : ∀ x ∈ P, sc.names.lookup x = some .local ∨ sc.names.lookup x = some .cell
  nocell : ∀ y ∈ sc.names, y.2 = .cell → y.1 ≠ ("__class__" : Str)
  free : ∀ y ∈ sc.names, y.2 = .free → y.1 = ("__class__" : Str)
  cls : sc.names.lookup ("__class__" : Str) = some .free
  sup : sc.names.lookup ("super" : Str) = some .globalImplicit
theorem FnScopeS.clsC {N P : List Str} {sc : Scope} (S : FnScopeS N P sc) (n : Nat) (cc : Addr) : (cellsFrom n sc.names [(("__class__" : Str), cc)]).lookup ("__class__" : Str) = some cc := by
  rw [cells_app]
  have O : OwnC 0 cc (cellsFrom n sc.names []) → (cellsFrom n sc.names [] ++ [(("__class__" : Str), cc)]).lookup ("__class__" : Str) = some cc := fun O => O.cls
  rw [List.lookup_append]
  have : (cellsFrom n sc.names []).lookup ("__class__" : Str) = none := by
    cases e : (cellsFrom n sc.names []).lookup ("__class__" : Str) with
    | none => rfl
    | some c =>
      rcases cells_mem _ _ _ (PySem.mem_of_lookup e) with q | q
      · cases q
      · exact absurd rfl (S.nocell _ q rfl)
  rw [this]
  simp [List.lookup]
theorem zip_get {α β : Type} : ∀ {xs : List α} {ys : List β} {i : Nat} {x : α} {y : β}, xs[i]? = some x → ys[i]? = some y → (xs.zip ys)[i]? = some (x, y)
  | [], _, _, _, _, h, _ => by simp at h
  | _ :: _, [], _, _, _, _, h => by simp at h
  | a :: xs, b :: ys, 0, x, y, h, k => by
    simp at h k
    subst h k
    rfl
  | a :: xs, b :: ys, i + 1, x, y, h, k => by
    simpa using zip_get (xs := xs) (ys := ys) (i := i) (by simpa using h) (by simpa using k)
theorem zip_rev_lookup {ps : List Str} (nd : ps.Nodup) : ∀ {us : List Value} {i : Nat} {y : Str} {u : Value}, ps[i]? = some y → us[i]? = some u → (ps.zip us).reverse.lookup y = some u := by
  induction ps with
  | nil => intro us i y u h; simp at h
  | cons p ps ih =>
    intro us i y u h k
    cases us with
    | nil => simp at k
    | cons w us =>
      have nd' := List.nodup_cons.mp nd
      rw [List.zip_cons_cons, List.reverse_cons]
      cases i with
      | zero =>
        simp at h k
        subst h k
        have no : (ps.zip us).reverse.lookup p = none := by
          rw [List.lookup_eq_none_iff]
          intro q hq
          have hm : q ∈ ps.zip us := List.mem_reverse.mp hq
          have := (List.of_mem_zip (show (q.1, q.2) ∈ ps.zip us from hm)).1
          simpa using fun e : p = q.1 => nd'.1 (e ▸ this)
        rw [List.lookup_append, no]
        simp [List.lookup]
      | succ i =>
        have := ih nd'.2 (us := us) (i := i) (y := y) (u := u) (by simpa using h) (by simpa using k)
        rw [List.lookup_append, this]
        rfl
theorem inv_startS {CX : CXT} {P : Program} {w : World} {K : PySem.W.Frag} {mg : Str → Option Value} {base : Heap} {N ps : List Str} {qual : Str} {scope : Scope} {f cc D : Addr} {cd : Value} {A : Around} {outer : List Env} {s s1 : Shared} {H : Hp} {E : XK} {us : List Value} {vs : List V}
    (S : FnScopeS N ps scope) (hd : A.handled = none) (e0 : Env0 P w K mg base A outer s H) (hl : vs.length = ps.length) (r : Vals vs us) (hcc : ∃ cl cld csl, K.lookup cc = some ⟨cl, cld, .cell (some (.ref D)), csl⟩)
    (O : OwnC s.heap.objs.size cc (cellsFrom (s.heap.objs.size + 1) scope.names []))
    (x : InCallC s s.heap.objs.size (bindL (ksE qual scope s.heap.objs.size f cd cc).kindOf (ps.zip us) fun _ => none) (cellsFrom (s.heap.objs.size + 1) scope.names []) (bindC (ksE qual scope s.heap.objs.size f cd cc).kindOf (ps.zip us) fun _ => none) s1) :
    Inv (cxS CX P w K mg base N qual scope f cd cc A outer s H E) [] (L2.start N vs) H s1 := by
  have hpl : ps.length ≤ N.length := by have := congrArg List.length S.pre; rw [List.length_take] at this; omega
  obtain ⟨h1, tk, rfl, hk⟩ := x.done
  have noA : ∀ b : Addr, b ∉ (cxS CX P w K mg base N qual scope f cd cc A outer s H E).ex := fun b z => absurd (show b ∈ ([] : List Addr) from z) (by simp)
  obtain ⟨cl, cld, csl, hc⟩ := hcc
  have hcb := e0.mod.kin _ _ hc
  have hcs := (e0.bs _ _ hcb).1
  have hlt : cc < s.heap.objs.size := Heap.lt_size hcs
  have one : ∀ x c, (cxS CX P w K mg base N qual scope f cd cc A outer s H E).env.cells.lookup x = some c → (x = ("__class__" : Str) ∧ c = cc) ∨ (x ≠ ("__class__" : Str) ∧ (cellsFrom (s.heap.objs.size + 1) scope.names []).lookup x = some c) := fun x c h => by
    have h' : (cellsFrom (s.heap.objs.size + 1) scope.names [(("__class__" : Str), cc)]).lookup x = some c := h
    rw [cells_app] at h'
    by_cases hx : x = ("__class__" : Str)
    · subst hx
      rw [O.cls] at h'
      cases h'
      exact .inl ⟨rfl, rfl⟩
    · rw [O.look hx] at h'
      exact .inr ⟨hx, h'⟩
  refine ⟨⟨e0.mod, S.kind, rfl, rfl, Nat.le_refl _, fun y z c h1 h2 => ?_, fun y hy => ?_, fun x c z _ => ?_, fun _ => hd, Around.frames_deeper e0.frames, .inr ⟨rfl, rfl⟩, fun b z => absurd z (noA b), e0.bs, e0.bsz, fun b _ _ => noA b, fun b z => absurd z (noA b), e0.funs, e0.frf⟩,
    rfl, e0.bare, Un.kept hk, ⟨_, x.toInCall.ns, fun i y v h1 h2 h3 => ?_⟩, fun y c h => ?_, e0.hok.fresh (Nat.le_refl _), fun y c h => ?_, fun p hp => absurd (show p ∈ ([] : List (Addr × Obj)) from hp) (by simp), e0.hok.kept hk, ?_⟩
  · rcases one _ _ h1 with ⟨a1, a2⟩ | ⟨a1, a2⟩ <;> rcases one _ _ h2 with ⟨b1, b2⟩ | ⟨b1, b2⟩
    · rw [a1, b1]
    · have := O.above _ _ (PySem.mem_of_lookup b2)
      rw [a2] at this
      exact absurd (Nat.lt_trans hlt this) (Nat.lt_irrefl _)
    · have := O.above _ _ (PySem.mem_of_lookup a2)
      rw [b2] at this
      exact absurd (Nat.lt_trans hlt this) (Nat.lt_irrefl _)
    · exact name_of_addr O.apart (PySem.mem_of_lookup a2) (PySem.mem_of_lookup b2)
  · have hy : scope.names.lookup y = some .cell ∨ scope.names.lookup y = some .free := hy
    show ∃ c, (cellsFrom (s.heap.objs.size + 1) scope.names [(("__class__" : Str), cc)]).lookup y = some c
    rw [cells_app]
    rcases hy with hy | hy
    · rw [O.look (S.nocell _ (PySem.mem_of_lookup hy) rfl)]
      exact cell_has hy
    · have : y = ("__class__" : Str) := S.free _ (PySem.mem_of_lookup hy) rfl
      rw [this]
      exact ⟨cc, O.cls⟩
  · exact absurd (show (false : Bool) = true from z) Bool.false_ne_true
  · have hi : i < vs.length := by
      unfold L2.start at h2
      by_cases hi : i < vs.length
      · exact hi
      · rw [List.getElem?_append_right (by simpa using hi)] at h2
        rw [List.getElem?_replicate] at h2
        split at h2 <;> cases h2
    have ha : vs[i]? = some v := by
      unfold L2.start at h2
      rw [List.getElem?_append_left (by simpa using hi), List.getElem?_map] at h2
      cases e : vs[i]? with
      | none => rw [e] at h2; cases h2
      | some a => rw [e] at h2; cases h2; rfl
    obtain ⟨u, hu, rv⟩ := r.get ha
    have hp : ps[i]? = some y := by
      rw [← S.pre, List.getElem?_take_of_lt (by omega)]; exact h1
    have ndP : ps.Nodup := by rw [← S.pre]; exact S.nd.sublist (List.take_sublist _ _)
    refine ⟨u, rv, ?_⟩
    rcases S.par y (List.mem_of_getElem? hp) with k | k
    · exact .inl ⟨k, bindL_get ndP hp hu k⟩
    · obtain ⟨c, e⟩ := cell_has (n := s.heap.objs.size + 1) k
      refine .inr ⟨.inl k, c, ?_, ?_⟩
      · show (cellsFrom (s.heap.objs.size + 1) scope.names [(("__class__" : Str), cc)]).lookup y = some c
        rw [cells_app, O.look (S.nocell _ (PySem.mem_of_lookup k) rfl)]
        exact e
      · have q := x.cell y c e
        rw [bindC_get ndP hp hu (by show scope.names.lookup y ≠ _; rw [k]; decide)] at q
        exact q
  · rcases one _ _ h with ⟨_, rfl⟩ | ⟨_, b⟩
    · exact ⟨_, _, hk _ _ hcs, rfl⟩
    · exact ⟨_, x.cell y c b⟩
  · rcases one _ _ h with ⟨_, rfl⟩ | ⟨_, b⟩
    · exact (e0.bs _ _ hcb).2
    · exact e0.hok.fresh (Nat.le_of_lt (O.above y c (PySem.mem_of_lookup b)))
  · unfold L2.start
    show _ = N.length
    rw [List.length_append, List.length_map, List.length_replicate]
    omega
/-- what the written part says of a def that closes over its class -/
structure SupF (P : Program) (K : PySem.W.Frag) (mg : Str → Option Value) (x qual : Str) (st : Stmt) (f cda cc D : Addr) (fd : FuncData) : Prop where
  ex : ∃ (oc : Value) (od : Option Addr) (kV doc pm : Value) (an : Option Addr) (ct : Value) (osl : Array (Option Value)),
    fd = ksFn x qual (defArgs st) (defBody st) (defScope st) .none kV doc pm an (.ref cda) ct cc ∧ K.lookup f = some ⟨oc, od, .func fd, osl⟩ ∧ PySem.W.codeIn K (.ref cda) qual = true
  code : ∃ ccl cdd vs ccs file tf, K.lookup cda = some ⟨ccl, cdd, .fields vs, ccs⟩ ∧ vs[2]? = some (.str file tf) ∧ (P.main.file == file) = true
  cell : ∃ cl cld csl, K.lookup cc = some ⟨cl, cld, .cell (some (.ref D)), csl⟩
  cls : (PySem.W.clsIn K D).isSome = true
  nosup : mg ("super" : Str) = none
  htop : (P.main.scope.names.lookup ("super" : Str)).isSome = false
  par : ∃ ar, ((defArgs st).posonlyargs ++ (defArgs st).args).head? = some ar ∧ ar.arg = ("self" : Str)
  kp : PySem.W.keepIn K (.ref f) = true
theorem SupF.ok {P : Program} {w : World} {K : PySem.W.Frag} {mg : Str → Option Value} {base : Heap} {CX : CXT} {k : Nat} {x qual : Str} {st : Stmt} {f cda cc D : Addr} {fd : FuncData} {N ps : List Str} {sp : Sp}
    (F : SupF P K mg x qual st f cda cc D fd) (S : FnScopeS N ps (defScope st)) (len : ∀ vs H Q E, sp vs H Q E → vs.length = ps.length)
    (hbody : ∀ (A : Around) (outer : List Env) (s : Shared) (H : Hp) (vs : List V) (Q : VK) (E : XK), Room k (A.deeper (ksE qual (defScope st) s.heap.objs.size f (.ref cda) cc)) → sp vs H Q E →
      ∃ t, PSsA (cxS CX P w K mg base N qual (defScope st) f (.ref cda) cc A outer s H E) (defBody st) (defBody st) t ∧ t { nx := fun _ H' => Q .non H', rt := Q } (L2.start N vs) H) :
    FnOk P w K mg base CX (k + 1) f fd ps sp := by
  obtain ⟨oc, od, kV, doc, pm, an, ct, osl, rfl, lk, hcd⟩ := F.ex
  refine ⟨len, fun A outer s H args us vs Q E hr e0 hb r hsp => ?_⟩
  have hl := len _ _ _ _ hsp
  have KX : K.In s.heap := e0.mod.kin.keeps fun b o e => (e0.bs b o e).1
  have lim : s.heap.NoLimit := e0.mod.nolimit.keeps fun b o e => (e0.bs b o e).1
  refine codeAny_call_function hr.depth (KX _ _ lk) rfl S.co S.gen rfl (PySem.W.codeRec_of KX hcd) (hb _ _ _ _ ?_)
  refine newEnv_own S.kind S.nocell (fun y hy => S.par y.1 (List.of_mem_zip (show (y.1, y.2) ∈ ps.zip us from hy)).1) fun env he s1 x O => ?_
  subst he
  refine ⟨lim.keeps x.toInCall.keep, PySem.ks_codeAny_funcAt ?_⟩
  obtain ⟨t, ht, hq⟩ := hbody A outer s H vs Q E (hr.deeper _) hsp
  have I := inv_startS (CX := CX) (w := w) (f := f) (cd := .ref cda) (qual := qual) (E := E) S hr.hd e0 hl r F.cell O x
  refine PySem.wpAt_mono (ht.run [] _ (L2.start N vs) H _ I hq) (fun fl s' hs => ?_) fun e s' hs => hs
  have fin : ∀ {σ' : L2.St} {H' : Hp} {v : V} {u : Value}, Inv (cxS CX P w K mg base N qual (defScope st) f (.ref cda) cc A outer s H E) [] σ' H' s' → RelV v u → Q v H' → CE outer P w H s Q u s' :=
    fun {σ' H' v u} J rv q => ⟨v, H', J.os, J.bare, J.base, J.hok, rv, q⟩
  cases fl with
  | ret u =>
    obtain ⟨v, σ', H', J, rv, q⟩ := hs
    exact fin J rv q
  | next =>
    obtain ⟨σ', H', J, q⟩ := hs
    exact fin (v := V.non) (u := Value.none) J rfl q
  | brk =>
    obtain ⟨_, _, _, q⟩ := hs
    exact False.elim q
  | cont =>
    obtain ⟨_, _, _, q⟩ := hs
    exact False.elim q
/-! ### super() -/
section
variable {CX : CXT} {P : Program} {w : World} {K : PySem.W.Frag} {mg : Str → Option Value} {base : Heap} {N ps : List Str} {x qual : Str} {st : Stmt} {f cda cc D : Addr} {fd : FuncData} {A : Around} {outer : List Env} {s₀ : Shared} {H₀ : Hp} {E₀ : XK}
abbrev superO (D x C : Addr) : Obj := PySem.W.ks_superObj D x C
/-- super() made, self an instance of the class at C -/
theorem sup_node (F : SupF P K mg x qual st f cda cc D fd) (S : FnScopeS N ps (defScope st)) (hself : N[0]? = some ("self" : Str)) (hsl : (defScope st).names.lookup ("self" : Str) = some .local)
    {pins : List (Addr × Obj)} {σ : L2.St} {H : Hp} {s : Shared} {a C : Addr} {p0 p1 : Pos} {attr : Str} {whole : Sem Value} {Q : Value → Shared → Prop} {E : Value → Shared → Prop} {ox : Obj} {odx : Option Obj}
    (I : Inv (cxS CX P w K mg base N qual (defScope st) f (.ref cda) cc A outer s₀ H₀ E₀) pins σ H s) (hσ : σ[0]? = some (some (.ref a))) (hat : (attr == ("__class__" : Str)) = false)
    (J : PySem.W.InstAt s.heap a ox C odx) (hsub : PySem.W.mroIn K C (.ref D) = some true)
    (h : ∀ so s', s'.heap.get? so = some (superO D a C) → (∀ b o, s.heap.get? b = some o → s'.heap.get? b = some o) → Inv (cxS CX P w K mg base N qual (defScope st) f (.ref cda) cc A outer s₀ H₀ E₀) pins σ H s' → Q (.ref so) s') :
    PySem.wpAt (model P w) (A.deeper (ksE qual (defScope st) s₀.heap.objs.size f (.ref cda) cc)) (.func (defBody st) (ksE qual (defScope st) s₀.heap.objs.size f (.ref cda) cc))
      (attributeBase (.Call (.Name "super" p0) [] [] p1) attr (ksE qual (defScope st) s₀.heap.objs.size f (.ref cda) cc) whole) Q E s := by
  have X : K.In s.heap := I.kIn
  obtain ⟨oc, od, kV, doc, pm, an, ct, osl, rfl, lk, hcd⟩ := F.ex
  obtain ⟨ccl, cdd, vs, ccs, file, tf, hcode, hvs, hfile⟩ := F.code
  obtain ⟨cl, cld, csl, hcell⟩ := F.cell
  obtain ⟨ar, hp, har⟩ := F.par
  obtain ⟨cdD, hD⟩ := Option.isSome_iff_exists.mp F.cls
  obtain ⟨m, hns, hloc⟩ := I.loc
  obtain ⟨u, ru, hu⟩ := hloc 0 ("self" : Str) (.ref a) hself hσ (.inl hsl)
  obtain rfl : u = Value.ref a := ru
  have hmu : m ("self" : Str) = some (.ref a) := by
    rcases hu with ⟨_, e⟩ | ⟨q, _⟩
    · exact e
    · exfalso
      have hk : ∀ k, (cxS CX P w K mg base N qual (defScope st) f (.ref cda) cc A outer s₀ H₀ E₀).env.kindOf ("self" : Str) = some k → k = .local := fun k e => by
        have e' : (defScope st).names.lookup ("self" : Str) = some k := e
        rw [hsl] at e'
        exact (Option.some.inj e').symm
      rcases q with q | q
      · cases hk _ q
      · cases hk _ q
  have Ik := I
  obtain ⟨hh, g, d, t, os⟩ := s
  obtain ⟨oD, hD1, hD2⟩ : ∃ oD, hh.get? D = some oD ∧ oD.data = .cls cdD := by
    unfold PySem.W.clsIn at hD
    split at hD
    · rename_i c d cd' sl ho
      cases hD
      exact ⟨_, X _ _ ho, rfl⟩
    · cases hD
  obtain ⟨mb, hb1, hb2⟩ := I.mod.blt
  refine PySem.ks_wpAt_super_base (env := ksE qual (defScope st) s₀.heap.objs.size f (.ref cda) cc) S.sup S.cls hat rfl (X _ _ lk) rfl hp rfl (X _ _ hcode) rfl hvs hfile F.htop ?_
  refine PySem.W.ks_loadName_global S.kind S.sup (Calls.loadGlobal_builtin (env := ksE qual (defScope st) s₀.heap.objs.size f (.ref cda) cc) (I.mod.glob.keeps I.bk) F.nosup (hb1.keeps I.bk) ((hb2 _ (by decide +kernel)).trans (by decide +kernel : bootBuiltins ("super" : Str) = some (.type "super"))) ⟨rfl, ?_⟩)
  refine wpAny_loadName_free S.kind S.cls (c := cc) (S.clsC _ _) ⟨_, X _ _ hcell, rfl⟩ ?_
  rw [har]
  refine wpAny_loadName_local S.kind hsl hns hmu ?_
  refine PySem.ks_wpAny_isType_cls hD1 hD2 ⟨rfl, ?_⟩
  refine PySem.ks_wpAny_call_super hD1 hD2 J.at_ J.cls (fun c e => ?_) (PySem.W.looks_mroIn X hsub) (fun h' e k => ?_)
  · have := J.no
    unfold PySem.W.notCls at this
    rw [e] at this
    exact Bool.noConfusion this
  · exact h _ ⟨h', g, d, t, os⟩ e k (Ik.kept (t' := t) k)
end
end Z
namespace Z
open PySem L2
open PySem.W (ksFn ks_superIn kxs_mw envX)
open PyProof.Rows (envOfC)
def mwO (u x : Addr) : HO := .ext fun h => h.get? u = some (kxs_mw "ValueError.__init__" x)
theorem mwO_ok {P : Program} {w : World} {H : Hp} {h : Heap} {u x : Addr} (e : h.get? u = some (kxs_mw "ValueError.__init__" x)) : ObjOk P w H h u (mwO u x) := ⟨e, ⟨_, e⟩, fun _ _ q k => k _ q⟩
theorem mwO_at {P : Program} {w : World} {H : Hp} {h : Heap} {u x : Addr} (hok : HOk P w H h) (e : H u = some (mwO u x)) : h.get? u = some (kxs_mw "ValueError.__init__" x) := by
  have z : ObjOk P w H h u (.ext fun h => h.get? u = some (kxs_mw "ValueError.__init__" x)) := hok u _ e
  exact z.1
/-- what the class at C, an exception's, says to super().__init__ in a def of the class at D -/
structure SupE (K : PySem.W.Frag) (C D : Addr) : Prop where
  T : OexC K C
  su : ks_superIn K C D "__init__" = some (some (.builtin "ValueError.__init__"))
  ve : PySem.W.subIn K (.ref C) (.type "ValueError") = some true
  mr : PySem.W.mroIn K C (.ref D) = some true
  op : PySem.W.nsIn K PySem.cStatics "thirdparty.any" = some none
def tSupE (K : PySem.W.Frag) (D : Addr) (t : TA) (u' : TS) : TS := fun Dd σ H => ∃ a C, σ[0]? = some (some (.ref a)) ∧ H a = some (exo a C none) ∧ SupE K C D ∧
  ∀ u, H u = none → u ≠ a → t σ (upd H u (mwO u a)) fun vs H2 => H2 u = some (mwO u a) ∧ H2 a = some (exo a C none) ∧ vs.length ≤ 1000 ∧ u' Dd σ H2
theorem insE {P : Program} {w : World} {H : Hp} {h : Heap} {a C : Addr} (hok : HOk P w H h) (e : H a = some (exo a C none)) : ∃ ox, PySem.W.InstAt h a ox C none := by
  obtain ⟨t1, ho⟩ := exo_at hok e
  exact ⟨_, ho, rfl, rfl, trivial⟩
section
variable {CX : CXT} {P : Program} {w : World} {K : PySem.W.Frag} {mg : Str → Option Value} {base : Heap} {N ps : List Str} {x qual : Str} {st : Stmt} {f cda cc D : Addr} {fd : FuncData} {A : Around} {outer : List Env} {s₀ : Shared} {H₀ : Hp} {E₀ : XK}
theorem pssa_supE (F : SupF P K mg x qual st f cda cc D fd) (S : FnScopeS N ps (defScope st)) (hself : N[0]? = some ("self" : Str)) (hsl : (defScope st).names.lookup ("self" : Str) = some .local)
    {e : Expr} {es : List Expr} {sts : List Stmt} {p0 p1 p2 pos pos' : Pos} {t : TA} {u' : TS} {pl : Sem Bool}
    (ha : PA (cxS CX P w K mg base N qual (defScope st) f (.ref cda) cc A outer s₀ H₀ E₀) (e :: es) t) (hr : PSsA (cxS CX P w K mg base N qual (defScope st) f (.ref cda) cc A outer s₀ H₀ E₀) (defBody st) sts u')
    (he : starEach (e :: es) (ksE qual (defScope st) s₀.heap.objs.size f (.ref cda) cc) = (false, eval e (ksE qual (defScope st) s₀.heap.objs.size f (.ref cda) cc)) :: starEach es (ksE qual (defScope st) s₀.heap.objs.size f (.ref cda) cc) := by rfl)
    (hpl : (backTo pos (starEach es (ksE qual (defScope st) s₀.heap.objs.size f (.ref cda) cc))).any (·.1) = false := by rfl)
    (hs : swapsWith (.Call (.Attribute (.Call (.Name "super" p0) [] [] p1) "__init__" p2) (e :: es) [] pos) none pos'.line (ksE qual (defScope st) s₀.heap.objs.size f (.ref cda) cc) = pure false := by rfl)
    (hc : eval (.Call (.Attribute (.Call (.Name "super" p0) [] [] p1) "__init__" p2) (e :: es) [] pos) (ksE qual (defScope st) s₀.heap.objs.size f (.ref cda) cc) = (do
      let ov ← attributeBase (.Call (.Name "super" p0) [] [] p1) "__init__" (ksE qual (defScope st) s₀.heap.objs.size f (.ref cda) cc) (eval (.Call (.Name "super" p0) [] [] p1) (ksE qual (defScope st) s₀.heap.objs.size f (.ref cda) cc))
      standAt p2.atName
      let (f', first) ← holding [ov] (getMethod ov "__init__" pl)
      callWith pos f' first (backTo pos (starEach (e :: es) (ksE qual (defScope st) s₀.heap.objs.size f (.ref cda) cc))) []) := by rfl) :
    PSsA (cxS CX P w K mg base N qual (defScope st) f (.ref cda) cc A outer s₀ H₀ E₀) (defBody st) (.Expr (.Call (.Attribute (.Call (.Name "super" p0) [] [] p1) "__init__" p2) (e :: es) [] pos) pos' :: sts) (tSupE K D t u') := by
  refine ⟨fun pins s σ H Dd I h => ?_⟩
  obtain ⟨a, C, hσ, hH, SE, h⟩ := h
  refine PySem.ks_wpAt_execs_cons (PySem.ks_wpAt_Expr_any ?_ I.quiet hs)
  refine PySem.ks_wpAt_MethodCall (pl := pl) ?_ hc
  obtain ⟨ox, J⟩ := insE I.hok hH
  obtain ⟨nm, q, N', bs, bm, sn, sub, ab, col, dd, k0, k1, k2, k3, k5, hC, hbm⟩ := SE.T.cls
  refine sup_node F S hself hsl I hσ (by decide +kernel) J SE.mr fun so s1 hso k1 I1 => ?_
  have X1 : K.In s1.heap := I1.kIn
  obtain ⟨ox1, J1⟩ := insE I1.hok hH
  obtain ⟨hh, g, d, tt, os⟩ := s1
  have hI : PySem.W.Looks (model P w) hh (isInstance (.ref a) (.type "ValueError")) true := J1.type.andThen (PySem.W.looks_subIn X1 SE.ve)
  have hcl : (PySem.W.clsIn K C) = some { name := nm, bases := bs, mro := .ref C :: bm, ns := N', qualname := q, hasDict := true, slotNames := sn, subclasses := sub, abstract := ab, collection := col, hasDel := false } := by unfold PySem.W.clsIn; rw [hC] <;> rfl
  have hsu := SE.su
  unfold ks_superIn at hsu
  rw [hcl] at hsu
  refine PySem.W.kxs_getMethod PySem.W.kxs_ValueError hso (PySem.W.looks_opaque X1 SE.op) (l₀ := .ref C :: bm) ?_ rfl X1 hsu hI (PySem.W.ks_ne X1 J1 hcl) (by decide +kernel) ?_
  · exact fun A Q E s k q => wpAny_bind ((PySem.W.looks_clsIn X1 hcl) A _ E s k (wpAny_pure q))
  · have hn : H hh.objs.size = none := I1.hok.fresh (Nat.le_refl _)
    have hua : hh.objs.size ≠ a := fun z => by rw [z, hH] at hn; cases hn
    have hget : (hh.push (kxs_mw "ValueError.__init__" a)).get? hh.objs.size = some (kxs_mw "ValueError.__init__" a) := Heap.get?_push_at rfl rfl
    have I2 : Inv (cxS CX P w K mg base N qual (defScope st) f (.ref cda) cc A outer s₀ H₀ E₀) pins σ (upd H hh.objs.size (mwO hh.objs.size a)) ⟨hh.push (kxs_mw "ValueError.__init__" a), g, d, tt + 1, os⟩ :=
      I1.laid (t' := tt + 1) (fun b o z => Heap.get?_push_of_some _ z) (Nat.le_refl _) (mwO_ok hget)
    have h2 := h _ hn hua
    have run := ha.run pos pins _ σ _ _ I2 h2
    show wpAny _ _ (callWith pos (.ref hh.objs.size) [] (backTo pos (starEach (e :: es) (ksE qual (defScope st) s₀.heap.objs.size f (.ref cda) cc))) []) _ _ _
    have run' : wpAny (model P w) (A.deeper (ksE qual (defScope st) s₀.heap.objs.size f (.ref cda) cc)) (spliced (backTo pos (starEach (e :: es) (ksE qual (defScope st) s₀.heap.objs.size f (.ref cda) cc)))) _ _ _ := run
    rw [he] at run' ⊢
    refine PySem.W.kxs_callWith (i := "ValueError.__init__") (x := a) (by show (false || (backTo pos (starEach es _)).any (·.1)) = false; rw [hpl]; rfl) ?_
    refine PySem.Calls.evalArgs_plain (wpAny_mono run' (fun us s3 hq => ?_) fun _ _ z => z)
    obtain ⟨vs, H3, I3, r3, hu3, ha3, hl3, q⟩ := hq
    have hu := mwO_at I3.hok hu3
    refine ⟨hu, ?_⟩
    obtain ⟨t1, ho⟩ := exo_at I3.hok ha3
    have X3 : K.In s3.heap := I3.kIn
    have hC3 := X3 _ _ hC
    have hz : us.length ≤ sizeLine := by
      rw [← Paired.length r3, sizeLine_eq]
      omega
    obtain ⟨h3, g3, d3, t3, os3⟩ := s3
    show wpAny _ _ (call (.ref hh.objs.size) us) _ _ _
    refine wpAny_call (codeAny_of_tree ?_)
    show wpAny _ (A.deeper (ksE qual (defScope st) s₀.heap.objs.size f (.ref cda) cc)).in1 (callAny (.ref hh.objs.size) ⟨us, []⟩) _ _ _
    simp only [callAny]
    refine wpAny_bind (wpAny_load hu ?_)
    simp only [kxs_mw, show (Value.type "method-wrapper" == Value.type "method" || Value.type "method-wrapper" == Value.type "builtin_function_or_method" || Value.type "method-wrapper" == Value.type "method-wrapper") = true by decide, if_true]
    refine PySem.W.KFB.if_so (by decide) ?_
    refine wpAny_bind (PySem.W.check_bound_init PySem.F.excBase_ValueError.toExcCallFacts hC3 ho rfl ?_)
    refine wpAny_bind (wpAny_pure (wpAny_pure ?_))
    refine ⟨plainId_quiet PySem.F.excBase_ValueError.init.plain _, codeAny_builtin PySem.F.excBase_ValueError.initEntry ?_⟩
    refine PySem.W.exc_init_tree (cls := .ref C) (t0 := t1) (dv := none) (c2 := .none) (c3 := .none) (b4 := .bool false) ho hz fun h' kk hx' ht' => ?_
    have J3 := I3.write (t' := t3) (x := a) (e := a) (o := exo a C none) (by rw [ha3]; exact True.intro) (.inl rfl) kk ⟨_, hx'⟩ (exo_ok hx')
    have eu : upd H3 a (exo a C none) = H3 := by
      funext b
      by_cases hb : b = a
      · rw [hb, upd_same, ha3]
      · rw [upd_ne hb]
    rw [eu] at J3
    exact hr.run pins _ σ H3 Dd J3 q
end
end Z
set_option Elab.async false
set_option linter.all false
set_option maxRecDepth 100000
set_option maxHeartbeats 4000000
set_option autoImplicit false
namespace Z
open PySem L2
open Evl (Ex)
theorem passN {X : Cx} : Passes (L2.CX X.prog X.w) X E0 := fun _ _ _ _ _ _ _ h => by
  obtain ⟨_, _, _, _, _, _, _, _, _, _, _, _, z⟩ := h
  exact z.elim
theorem passNAt {X : Cx} : ∀ σ, PassesAt (L2.CX X.prog X.w) X σ ((fun _ => E0 : L2.St → XK) σ) := fun σ pins H s e s' I c => passN pins σ H s e s' I c
theorem pass0At {X : Cx} {E : L2.St → XK} : ∀ σ, PassesAt CX0 X σ (E σ) := fun _ _ _ _ _ _ _ h => h.elim
/-! ### own errors: made by __init__(self, f, ..): super().__init__(text); self.f = f; .. -/
def spX1 (K : PySem.W.Frag) (C : Addr) (f : Str) : Sp := fun vs H Q _ => ∃ (a : Addr) (v : V), vs = [.ref a, v] ∧ H a = some (exo a C none) ∧
  ∀ H' d, H d = none → d ≠ a → Ex (cut H a) (cut H' a) → H' a = some (exo a C (some d)) → H' d = some (exd d [(f, v)]) → Q .non H'
def spX2 (K : PySem.W.Frag) (C : Addr) (f g : Str) : Sp := fun vs H Q _ => ∃ (a : Addr) (v u : V), vs = [.ref a, v, u] ∧ H a = some (exo a C none) ∧
  ∀ H' d, H d = none → d ≠ a → Ex (cut H a) (cut H' a) → H' a = some (exo a C (some d)) → H' d = some (exd d [(g, u), (f, v)]) → Q .non H'
theorem exd_lst {d : Addr} {fs : List (Str × V)} {u : HO} (h : exd d fs = u) : ∃ φ, u = .ext φ := ⟨_, h.symm⟩
theorem read_X1 {K : PySem.W.Frag} {C D : Addr} {f : Str} {x : Str} {vs : List V} {H : Hp} {Q : VK} {E : XK} (S : SupE K C D) (hno : PySem.W.findIn K (.ref C) f = some none) (h : spX1 K C f vs H Q E) {n : Nat} (hn : n = vs.length) :
    tSupE K D (tCons (tC (.str x)) tNil) (tOst K f (tVar 0) (tVar 1)) { nx := fun _ H' => Q .non H', rt := Q } (vs.map some ++ List.replicate (n - vs.length) none) H := by
  obtain ⟨a, v, rfl, ha, k⟩ := h
  subst hn
  refine ⟨a, C, rfl, ha, S, fun u hu hua => ⟨upd_same, by rw [upd_ne (Ne.symm hua)]; exact ha, by show 1 ≤ 1000; decide, v, rfl, .ref a, rfl, a, C, rfl, S.T, hno, .inl ⟨by rw [upd_ne (Ne.symm hua)]; exact ha, fun dx hdx hda => ?_⟩⟩⟩
  have hdu : dx ≠ u := fun z => by rw [z, upd_same] at hdx; cases hdx
  rw [upd_ne hdu] at hdx
  refine k _ dx hdx hda ?_ upd_same (by rw [upd_ne hda, upd_same])
  rw [cut_upd, cut_upd_ne hda, cut_upd_ne hua]
  exact (Evl.Ex.new (by rw [cut_ne hua]; exact hu)).trans (Evl.Ex.new (by rw [upd_ne hdu, cut_ne hda]; exact hdx))
theorem read_X2 {K : PySem.W.Frag} {C D : Addr} {f g : Str} {x : Str} {vs : List V} {H : Hp} {Q : VK} {E : XK} (S : SupE K C D) (hno : PySem.W.findIn K (.ref C) f = some none) (hno2 : PySem.W.findIn K (.ref C) g = some none) (h : spX2 K C f g vs H Q E) {n : Nat} (hn : n = vs.length) :
    tSupE K D (tCons (tC (.str x)) tNil) (tSeq (tOst K f (tVar 0) (tVar 1)) (tOst K g (tVar 0) (tVar 2))) { nx := fun _ H' => Q .non H', rt := Q } (vs.map some ++ List.replicate (n - vs.length) none) H := by
  obtain ⟨a, v, w, rfl, ha, k⟩ := h
  subst hn
  refine ⟨a, C, rfl, ha, S, fun u hu hua => ⟨upd_same, by rw [upd_ne (Ne.symm hua)]; exact ha, by show 1 ≤ 1000; decide, v, rfl, .ref a, rfl, a, C, rfl, S.T, hno, .inl ⟨by rw [upd_ne (Ne.symm hua)]; exact ha, fun dx hdx hda => ?_⟩⟩⟩
  have hdu : dx ≠ u := fun z => by rw [z, upd_same] at hdx; cases hdx
  rw [upd_ne hdu] at hdx
  refine ⟨w, rfl, .ref a, rfl, a, C, rfl, S.T, hno2, .inr ⟨dx, [(f, v)], upd_same, by rw [upd_ne hda, upd_same], by show 1 ≤ 900; decide, ?_⟩⟩
  refine k _ dx hdx hda ?_ (by rw [upd_ne (Ne.symm hda), upd_same]) upd_same
  rw [cut_upd_ne hda, cut_upd, cut_upd_ne hda, cut_upd_ne hua, upd_upd]
  exact (Evl.Ex.new (by rw [cut_ne hua]; exact hu)).trans (Evl.Ex.new (by rw [upd_ne hdu, cut_ne hda]; exact hdx))
/-- raise C(e), C(e, e') -/
theorem mk_X1 {K : PySem.W.Frag} {C : Addr} {f : Str} {te : TE} {σ : L2.St} {H : Hp} {v : V} {Q : XK} (h : EV K te σ H v) (k : ∀ d H', H d = none → Ex H H' → H' d = some (.xd [(f, v)]) → Q (.ref C) (some d) H') :
    tMkO C (spX1 K C f) [] (tCons te tNil) σ H Q := h H (Ex.refl H) _ fun H1 e1 => ⟨by show 1 ≤ 1000; decide, fun a ha => ⟨a, v, rfl, upd_same, fun H' d hd hda hx h1 h2 => by
  rw [upd_ne hda] at hd
  refine ⟨rfl, d, _, h1, h2, hd, k d _ (fresh_back e1 hd) (e1.trans fun b o hb => ?_) upd_same⟩
  have hba : b ≠ a := ne_of_none hb ha
  rw [upd_ne (ne_of_none hb hd)]
  show (if b = a then none else H' b) = some o
  rw [if_neg hba]
  have := hx b o (by rw [cut_ne hba, upd_ne hba]; exact hb)
  rwa [cut_ne hba] at this⟩⟩
theorem mk_X2 {K : PySem.W.Frag} {C : Addr} {f g : Str} {te tu : TE} {σ : L2.St} {H : Hp} {v u : V} {Q : XK} (h : EV K te σ H v) (h' : EV K tu σ H u) (k : ∀ d H', H d = none → Ex H H' → H' d = some (.xd [(g, u), (f, v)]) → Q (.ref C) (some d) H') :
    tMkO C (spX2 K C f g) [] (tCons te (tCons tu tNil)) σ H Q := h H (Ex.refl H) _ fun H0 e0 => h' H0 e0 _ fun H1 e1 => ⟨by show 2 ≤ 1000; decide, fun a ha => ⟨a, v, u, rfl, upd_same, fun H' d hd hda hx h1 h2 => by
  rw [upd_ne hda] at hd
  refine ⟨rfl, d, _, h1, h2, hd, k d _ (fresh_back (e0.trans e1) hd) ((e0.trans e1).trans fun b o hb => ?_) upd_same⟩
  have hba : b ≠ a := ne_of_none hb ha
  rw [upd_ne (ne_of_none hb hd)]
  show (if b = a then none else H' b) = some o
  rw [if_neg hba]
  have := hx b o (by rw [cut_ne hba, upd_ne hba]; exact hb)
  rwa [cut_ne hba] at this⟩⟩
theorem len_X1 {K : PySem.W.Frag} {C : Addr} {f s1 s2 : Str} : ∀ vs H Q E, spX1 K C f vs H Q E → vs.length = [s1, s2].length := fun vs H Q E h => by
  obtain ⟨a, v, rfl, _⟩ := h
  rfl
theorem len_X2 {K : PySem.W.Frag} {C : Addr} {f g s1 s2 s3 : Str} : ∀ vs H Q E, spX2 K C f g vs H Q E → vs.length = [s1, s2, s3].length := fun vs H Q E h => by
  obtain ⟨a, v, u, rfl, _⟩ := h
  rfl
/-! ### a caught one: isinstance(e, c) -/
def rIsX (K : PySem.W.Frag) (a : Addr) (cls : Value) (d : Option Addr) : List V → Hp → VK → Prop := fun xs H Q => ∃ (c : V) (cv : Value) (b : Bool) (D dd : Addr) (fs : List (Str × V)), xs = [.ref a, c] ∧ cls = .ref D ∧ ExcC K D ∧ d = some dd ∧ H dd = some (.xd fs) ∧
  (∀ u, RelV c u → u = cv) ∧ PySem.W.kitOne K (.ref D) cv = some b ∧ Q (.bl b) H
theorem call_isX {X : Cx} {a : Addr} {cls : Value} {d : Option Addr} {oe : Obj} {pn : List (Addr × Obj)} (hz : Zc cls d oe) (hf : ∃ vs, oe.data = .fields vs) : CallR (X.suite a ((a, oe) :: pn)) (.builtin "isinstance") (rIsX X.K a cls d) := by
  intro pins s σ H xs us Q I r h
  obtain ⟨c, cv, b, D, dd, fs, rfl, rfl, C, rfl, hd, hcv, e, q⟩ := h
  cases r with
  | cons rx rr =>
    cases rr with
    | cons rt rr =>
      cases rr
      cases rx
      have ec := hcv _ rt
      subst ec
      obtain ⟨hget, _⟩ := I.pin (a, oe) (List.mem_append.mpr (.inl List.mem_cons_self))
      obtain ⟨vs, hv⟩ := hf
      have hx : ObjOk X.prog X.w H s.heap dd (.xd fs) := I.hok dd _ hd
      obtain ⟨mA, ⟨od, _, _, ho, _⟩, _⟩ := hx
      have J : PySem.W.InstAt s.heap a oe D (some od) := ⟨hget, hz.1, by unfold PySem.W.notCls; rw [hv] <;> rfl, by rw [hz.2]; exact ho⟩
      obtain ⟨cd, hc, _⟩ := PySem.W.any_some C.hd
      exact PySem.W.kia_one (PySem.W.kitx_exc (by rw [hc]; rfl) C.hg C.hk C.hs C.ha C.hn C.ht C.hm) I.kIn J e (fun z => nomatch z) fun tk => ⟨.bl b, H, I.kept (t' := tk) fun _ _ z => z, rfl, q⟩
/-! ### C(e, ..) where what is raised is wished for at the caller's slots -/
def tMakeS (C : Addr) (sp : Sp) (E : L2.St → XK) (t : TA) : TE := fun σ H Q => t σ H fun vs H1 => ∀ x dx, H1 x = none → H1 dx = none → dx ≠ x →
  sp (.ref x :: vs) (upd (upd H1 dx (.own x)) x (.ins C dx [])) (fun v H2 => v = .non ∧ Q (.ref x) H2) (E σ)
section
variable {X : Cx} {CX : CXT} {k : Nat} {f C : Addr} {fd : FuncData} {ps : List Str} {sp : Sp} {E : L2.St → XK} {x : Str} {p pos : Pos} {e : Expr} {es : List Expr} {t : TA}
theorem pe_makeS (M : Mk X.K C f) (F : FnOk X.prog X.w X.K X.mg X.base CX k f fd ps sp) (hr : Room (k + 1) X.A) (hg : Gl X x) (hm : X.mg x = some (.ref C)) (hb : Binds X.K fd ps []) (hx : ∀ σ, PassesAt CX X σ (E σ))
    (ha : PA X (e :: es) t) (hdb : (x == ("__debug__" : Str)) = false := by decide) (he : starEach (e :: es) X.env = (false, eval e X.env) :: starEach es X.env := by rfl) (hpl : (backTo pos (starEach es X.env)).any (·.1) = false := by rfl) :
    PE X (.Call (.Name x p) (e :: es) [] pos) (tMakeS C sp E t) := by
  refine ⟨fun pins s0 σ H0 Q I0 h => wpAny_Call_Name_kw (ld_glob I0 hg hm ?_ hdb)⟩
  refine PySem.W.callWith_K (h₀ := X.base) I0.ok.mod.kin M.kp (thn (ha.run pos pins s0 σ H0 _ I0 h) fun us s ⟨vs, H, I, r, h⟩ => ⟨I.kIn, ?_⟩) he hpl
  have hq := h (s.heap.objs.size + 1) s.heap.objs.size (I.hok.fresh (Nat.le_succ _)) (I.hok.fresh (Nat.le_refl _)) (Nat.ne_of_lt (Nat.lt_succ_self _))
  have I2 := Inv.made (C := C) I
  have r2 : Vals (V.ref (s.heap.objs.size + 1) :: vs) (Value.ref (s.heap.objs.size + 1) :: us) := .cons rfl r
  have hl := (r2.length.symm.trans (F.len _ _ _ _ hq))
  have hbb := hb _ (Value.ref (s.heap.objs.size + 1) :: us) I2.kIn (by rw [List.append_nil]; exact hl)
  rw [List.append_nil] at hbb
  refine wpAny_call (make_map (f := f) I.kIn M.makes M.init (beq_iff_eq.mp M.fn) (codeAny_mono (F.run _ X.stack _ _ _ _ _ _ (E σ) (hr.make C us []) (I2.env0.make C us []) hbb r2 hq) fun r s' hq' => ?_))
  cases r with
  | error er => exact hx σ pins _ _ er s' I2 hq'
  | ok fl =>
    cases fl with
    | ret u =>
      obtain ⟨v, H', I3, rv, ev, q3⟩ := I2.after hq'
      subst ev
      exact ⟨rv, ⟨V.ref (s.heap.objs.size + 1), H', I3, rfl, q3⟩⟩
    | next => exact False.elim hq'
    | brk => exact False.elim hq'
    | cont => exact False.elim hq'
end
/-! ### a op b by an own method of both -/
structure OpC (K : PySem.W.Frag) (C f : Addr) (m : Str) : Prop where
  first : PySem.W.selfFirst K C = true
  at_ : PySem.W.findIn K (.ref C) m = some (some (.ref f))
  fn : PySem.W.isFn K (.ref f) = true
def tOwnOp (C : Addr) (sp : Sp) (E : L2.St → XK) (ta tb : TE) : TE := fun σ H Q => ta σ H fun x H1 => tb σ H1 fun y H2 => ∃ a dx fs b dy gs c, x = .ref a ∧ y = .ref b ∧ H2 a = some (.ins C dx fs) ∧ H2 b = some (.ins C dy gs) ∧
  sp [x, y] H2 (fun v H3 => v = .ref c ∧ Q v H3) (E σ)
def tOwnOp' (C : Addr) (sp : Sp) (E : L2.St → XK) (ta tb : TE) : TE := fun σ H Q => ta σ H fun x H1 => tb σ H1 fun y H2 => ∃ a dx fs b dy gs, x = .ref a ∧ y = .ref b ∧ H2 a = some (.ins C dx fs) ∧ H2 b = some (.ins C dy gs) ∧ sp [x, y] H2 Q (E σ)
theorem relV_ni {v : V} {Q : Value → Shared → Prop} {u : Value} {s : Shared} (r : RelV v u) (q : Q u s) : PySem.W.CmpBack Q u s := by
  cases v with
  | non => cases (show u = _ from r); exact q
  | bl _ => cases (show u = _ from r); exact q
  | int _ => obtain ⟨t, rfl⟩ := r; exact q
  | str _ => obtain ⟨t, rfl⟩ := r; exact q
  | byt _ => obtain ⟨t, rfl⟩ := r; exact q
  | flt _ => obtain ⟨t, rfl⟩ := r; exact q
  | ref _ => cases (show u = _ from r); exact q
  | ty _ => cases (show u = _ from r); exact q
section
variable {X : Cx} {CX : CXT} {k : Nat} {f C : Addr} {fd : FuncData} {ps : List Str} {sp : Sp} {E : L2.St → XK} {pos : Pos} {a b : Expr} {ta tb : TE} {op : Operator}
theorem pe_own (O : OpC X.K C f (PySem.dunder op.info.2)) (F : FnOk X.prog X.w X.K X.mg X.base CX k f fd ps sp) (hr : Room k X.A) (hb : Binds X.K fd ps []) (hx : ∀ σ, PassesAt CX X σ (E σ)) (ha : PE X a ta) (hb' : PE X b tb) :
    PE X (.BinOp a op b pos) (tOwnOp' C sp E ta tb) := by
  refine ⟨fun pins s σ H Q I h => wpAny_BinOp (bin ha hb' I h fun v u s2 x y H2 I2 rx ry q => ?_)⟩
  obtain ⟨p, dx, fs, r, dy, gs, rfl, rfl, hp, hq, hs⟩ := q
  obtain rfl : v = Value.ref p := rx
  obtain rfl : u = Value.ref r := ry
  obtain ⟨mA, O1, _⟩ := ins_get I2.hok hp
  obtain ⟨od, J, _⟩ := O1.look
  obtain ⟨mB, O2, _⟩ := ins_get I2.hok hq
  obtain ⟨od', J', _⟩ := O2.look
  obtain ⟨m, hF⟩ := I2.fr
  refine PySem.W.binop_K hF I2.ok.mod.kin J J'.type O.first O.at_ O.fn ?_
  refine thn (run_fnS F hr hb (hx σ) (vs := [.ref p, .ref r]) (us := [.ref p, .ref r]) I2 (.cons rfl (.cons rfl .nil)) hs) fun v s' hv => ?_
  obtain ⟨w, H', I', rw', q⟩ := hv
  exact relV_ni rw' ⟨w, H', I', rw', q⟩
end
end Z
set_option Elab.async false
set_option linter.all false
set_option maxRecDepth 100000
set_option maxHeartbeats 4000000
set_option autoImplicit false
namespace Z
open PySem L2
open PySem.W (ksFn ks_superIn)
/-- what an instance of the class at C says to super().__init__ in a def of the class at D: the own def at f2 -/
structure SupM (K : PySem.W.Frag) (C D f2 : Addr) : Prop where
  su : ks_superIn K C D "__init__" = some (some (.ref f2))
  ty : PySem.W.typeIn K (.ref f2) = some (.type "function")
  mr : PySem.W.mroIn K C (.ref D) = some true
  op : PySem.W.nsIn K PySem.cStatics "thirdparty.any" = some none
  fi : PySem.W.fnIn K f2 = true
def tSupM (K : PySem.W.Frag) (D f2 : Addr) (sp : Sp) (E : XK) (t : TA) (u' : TS) : TS := fun Dd σ H => ∃ a C dx fs, σ[0]? = some (some (.ref a)) ∧ H a = some (.ins C dx fs) ∧ SupM K C D f2 ∧
  ∀ q, H q = none → q ≠ a → t σ (upd H q (.met f2 a)) fun vs H2 => H2 q = some (.met f2 a) ∧ sp (.ref a :: vs) H2 (fun _ H3 => u' Dd σ H3) E
section
variable {CX CY : CXT} {P : Program} {w : World} {K : PySem.W.Frag} {mg : Str → Option Value} {base : Heap} {N ps : List Str} {x qual : Str} {st : Stmt} {f cda cc D : Addr} {fd : FuncData} {A : Around} {outer : List Env} {s₀ : Shared} {H₀ : Hp} {E₀ : XK}
theorem pssa_supM (F : SupF P K mg x qual st f cda cc D fd) (S : FnScopeS N ps (defScope st)) (hself : N[0]? = some ("self" : Str)) (hsl : (defScope st).names.lookup ("self" : Str) = some .local)
    {e : Expr} {es : List Expr} {sts : List Stmt} {p0 p1 p2 pos pos' : Pos} {t : TA} {u' : TS} {pl : Sem Bool} {k : Nat} {f2 : Addr} {fd2 : FuncData} {ps2 : List Str} {sp : Sp} {E : XK}
    (G : FnOk P w K mg base CY k f2 fd2 ps2 sp) (hr2 : Room k (A.deeper (ksE qual (defScope st) s₀.heap.objs.size f (.ref cda) cc))) (hb2 : Binds K fd2 ps2 []) (hx : Passes CY (cxS CX P w K mg base N qual (defScope st) f (.ref cda) cc A outer s₀ H₀ E₀) E)
    (ha : PA (cxS CX P w K mg base N qual (defScope st) f (.ref cda) cc A outer s₀ H₀ E₀) (e :: es) t) (hr : PSsA (cxS CX P w K mg base N qual (defScope st) f (.ref cda) cc A outer s₀ H₀ E₀) (defBody st) sts u')
    (he : starEach (e :: es) (ksE qual (defScope st) s₀.heap.objs.size f (.ref cda) cc) = (false, eval e (ksE qual (defScope st) s₀.heap.objs.size f (.ref cda) cc)) :: starEach es (ksE qual (defScope st) s₀.heap.objs.size f (.ref cda) cc) := by rfl)
    (hpl : (backTo pos (starEach es (ksE qual (defScope st) s₀.heap.objs.size f (.ref cda) cc))).any (·.1) = false := by rfl)
    (hs : swapsWith (.Call (.Attribute (.Call (.Name "super" p0) [] [] p1) "__init__" p2) (e :: es) [] pos) none pos'.line (ksE qual (defScope st) s₀.heap.objs.size f (.ref cda) cc) = pure false := by rfl)
    (hc : eval (.Call (.Attribute (.Call (.Name "super" p0) [] [] p1) "__init__" p2) (e :: es) [] pos) (ksE qual (defScope st) s₀.heap.objs.size f (.ref cda) cc) = (do
      let ov ← attributeBase (.Call (.Name "super" p0) [] [] p1) "__init__" (ksE qual (defScope st) s₀.heap.objs.size f (.ref cda) cc) (eval (.Call (.Name "super" p0) [] [] p1) (ksE qual (defScope st) s₀.heap.objs.size f (.ref cda) cc))
      standAt p2.atName
      let (f', first) ← holding [ov] (getMethod ov "__init__" pl)
      callWith pos f' first (backTo pos (starEach (e :: es) (ksE qual (defScope st) s₀.heap.objs.size f (.ref cda) cc))) []) := by rfl) :
    PSsA (cxS CX P w K mg base N qual (defScope st) f (.ref cda) cc A outer s₀ H₀ E₀) (defBody st) (.Expr (.Call (.Attribute (.Call (.Name "super" p0) [] [] p1) "__init__" p2) (e :: es) [] pos) pos' :: sts) (tSupM K D f2 sp E t u') := by
  refine ⟨fun pins s σ H Dd I h => ?_⟩
  obtain ⟨a, C, dx, fs, hσ, hH, SM, h⟩ := h
  refine PySem.ks_wpAt_execs_cons (PySem.ks_wpAt_Expr_any ?_ I.quiet hs)
  refine PySem.ks_wpAt_MethodCall (pl := pl) ?_ hc
  obtain ⟨mA, O, _⟩ := ins_get I.hok hH
  obtain ⟨od, J, _⟩ := O.look
  refine sup_node F S hself hsl I hσ (by decide +kernel) J SM.mr fun so s1 hso k1 I1 => ?_
  have X1 : K.In s1.heap := I1.kIn
  obtain ⟨mA1, O1, _⟩ := ins_get I1.hok hH
  obtain ⟨od1, J1, _⟩ := O1.look
  obtain ⟨hh, g, d, tt, os⟩ := s1
  have hsu := SM.su
  cases hcl : PySem.W.clsIn K C with
  | none => unfold ks_superIn at hsu; rw [hcl] at hsu; cases hsu
  | some cd =>
    unfold ks_superIn at hsu
    rw [hcl] at hsu
    obtain ⟨of, hof, hofc⟩ : ∃ of, hh.get? f2 = some of ∧ of.cls = .type "function" := by
      have ht' : (K.lookup f2).map (·.cls) = some (.type "function") := SM.ty
      cases z : K.lookup f2 with
      | none => rw [z] at ht'; cases ht'
      | some of => rw [z] at ht'; exact ⟨of, X1 _ _ z, Option.some.inj ht'⟩
    refine PySem.ks_wpAny_getMethod_super hso (PySem.W.looks_opaque X1 SM.op) (l₀ := cd.mro) ?_ rfl X1 hsu hof hofc (PySem.W.ks_ne X1 J1 hcl) (by decide +kernel) ?_
    · exact fun A Q E s k q => wpAny_bind ((PySem.W.looks_clsIn X1 hcl) A _ E s k (wpAny_pure q))
    · have hn : H hh.objs.size = none := I1.hok.fresh (Nat.le_refl _)
      have hua : hh.objs.size ≠ a := fun z => by rw [z, hH] at hn; cases hn
      have I2 : Inv (cxS CX P w K mg base N qual (defScope st) f (.ref cda) cc A outer s₀ H₀ E₀) pins σ (upd H hh.objs.size (.met f2 a)) ⟨hh.push (PySem.W.methodObj (.ref f2) (.ref a)), g, d, tt + 1, os⟩ :=
        I1.laid (t' := tt + 1) (a := hh.objs.size) (o := .met f2 a) (fun b u z => Heap.get?_push_of_some _ z) (Nat.le_refl _)
          (show (hh.push (PySem.W.methodObj (.ref f2) (.ref a))).get? hh.objs.size = some (PySem.W.methodObj (.ref f2) (.ref a)) from Heap.get?_push_size hh rfl)
      have run := ha.run pos pins _ σ _ _ I2 (h _ hn hua)
      show wpAny _ _ (callWith pos (.ref hh.objs.size) [] (backTo pos (starEach (e :: es) (ksE qual (defScope st) s₀.heap.objs.size f (.ref cda) cc))) []) _ _ _
      have run' : wpAny (model P w) (A.deeper (ksE qual (defScope st) s₀.heap.objs.size f (.ref cda) cc)) (spliced (backTo pos (starEach (e :: es) (ksE qual (defScope st) s₀.heap.objs.size f (.ref cda) cc)))) _ _ _ := run
      rw [he] at run' ⊢
      refine callwith_met (X := cxS CX P w K mg base N qual (defScope st) f (.ref cda) cc A outer s₀ H₀ E₀) (g := f2) (a := a) (by show ((false || (backTo pos (starEach es _)).any (·.1)) || false) = false; rw [hpl]; rfl) SM.fi ?_
      refine PySem.Calls.evalArgs_plain (wpAny_mono run' (fun us s3 hq => ?_) fun _ _ z => z)
      obtain ⟨vs, H3, I3, r3, hm3, q⟩ := hq
      refine ⟨met_P I3 hm3, ?_⟩
      have fr := FnOk.raw (ds := []) (dvs := []) G hb2 .nil
      refine wpAny_call (PySem.W.method_call (met_P I3 hm3).1 ?_)
      refine codeAny_mono (run_fnR (X := cxS CX P w K mg base N qual (defScope st) f (.ref cda) cc A outer s₀ H₀ E₀) (us := Value.ref a :: us) (vs := V.ref a :: vs) fr hr2 hx I3 (.cons rfl r3) (by rw [List.append_nil]; exact q)) fun r s' hq => ?_
      cases r with
      | error er => exact hq
      | ok fl =>
        cases fl with
        | ret v =>
          obtain ⟨w', H', I4, rw', q4⟩ := hq
          exact hr.run pins _ σ H' Dd I4 q4
        | next => exact False.elim hq
        | brk => exact False.elim hq
        | cont => exact False.elim hq
end
end Z
set_option Elab.async false
set_option linter.all false
set_option maxRecDepth 100000
set_option maxHeartbeats 4000000
set_option autoImplicit false
namespace Z
open PySem L2
open Evl (Ex)
section
variable {X : Cx} {pins : List (Addr × Obj)} {σ : L2.St} {H : Hp} {s : Shared}
/-- a tracked thing that is only told by a fact is let go -/
theorem inv_drop {it : Addr} {φ : Heap → Prop} (I : Inv X pins σ H s) (e : H it = some (.ext φ)) : Inv X pins σ (cut H it) s := by
  have ne : ∀ b o, H b = some o → o ≠ .ext φ → b ≠ it := fun b o h d z => by
    rw [z, e] at h
    exact d (Option.some.inj h).symm
  have up : ∀ b o, H b = some o → o ≠ .ext φ → cut H it b = some o := fun b o h d => by
    rw [cut_ne (ne b o h d)]
    exact h
  have no : ∀ b, H b = none → cut H it b = none := fun b h => by
    by_cases q : b = it
    · rw [q, cut_same]
    · rw [cut_ne q]
      exact h
  refine ⟨I.ok, I.os, I.bare, ⟨I.base.keep, I.base.slot, fun b o a c d => no b (I.base.free b o a c d), I.base.there, fun b xs h => up b _ (I.base.tups b xs h) (by intro z; cases z), fun b o u h => up b _ (I.base.frzs b o u h) (by intro z; cases z), fun b ps h => ?_⟩,
    I.loc, I.cell, no _ I.free, fun x c h => no c (I.freeC x c h), fun p hp => ?_, fun b o h => ?_, I.len⟩
  · obtain ⟨m, h⟩ := I.base.tbls b ps h
    exact ⟨m, up b _ h (by intro z; cases z)⟩
  · obtain ⟨h1, h2, h3⟩ := I.pin p hp
    exact ⟨h1, no _ h2, h3⟩
  · have hb : b ≠ it := fun z => by rw [z, cut_same] at h; cases h
    rw [cut_ne hb] at h
    exact (I.hok b o h).stay (fun _ _ _ q => q) (fun c h => up c _ h (by intro z; cases z)) fun c xs h => up c _ h (by intro z; cases z)
/-- a new tracked thing, told by a fact, may be an iterator -/
theorem fp_new {H' : Hp} {s' : Shared} {it : Addr} {u : HO} (I : Inv X pins σ H s) (I' : Inv X pins σ H' s') (big : s.heap.objs.size ≤ it) (e : H' it = some u) : FpOk X pins (cut H' it) it := by
  have nn : ∀ b, H' b = none → b ≠ it := fun b h z => by rw [z, e] at h; cases h
  exact ⟨cut_same, (nn _ I'.free).symm, fun z => nn it (by
      obtain ⟨_, o, ho, _⟩ := I'.ok.funs.mem z
      exact I'.base.free it o ho (I'.ok.frf it z) fun y => I'.ok.exfs it y z) rfl, .inr (Nat.le_trans I.sz big), fun x c h => nn c (I'.freeC x c h), fun p hp => nn _ (I'.pin p hp).2.1⟩
end
/-! ### a promise that knows how large the heap was at the call -/
structure FnOkN (P : Program) (w : World) (K : PySem.W.Frag) (mg : Str → Option Value) (base : Heap) (CX : CXT) (k : Nat) (f : Addr) (fd : FuncData) (ps : List Str) (sp : Nat → Sp) : Prop where
  len : ∀ n vs H Q E, sp n vs H Q E → vs.length = ps.length
  run : ∀ (A : Around) (outer : List Env) (s : Shared) (H : Hp) (args : Args) (us : List Value) (vs : List V) (Q : VK) (E : XK), Room k A → Env0 P w K mg base A outer s H → BindsTo s fd args (ps.zip us) → Vals vs us → sp s.heap.objs.size vs H Q E →
    codeAny (model P w) A (.call (.ref f) args) (CR CX outer P w H s Q E) s
theorem fun_okN {CX : CXT} {P : Program} {w : World} {K : PySem.W.Frag} {mg : Str → Option Value} {base : Heap} {k : Nat} {f : Addr} {fd : FuncData} {x qual : Str} {st : Stmt} {N ps : List Str} {sp : Nat → Sp} (F : Fun K x qual st f fd) (S : FnScope N ps (defScope st))
    (len : ∀ n vs H Q E, sp n vs H Q E → vs.length = ps.length)
    (hbody : ∀ (cdv : Value) (A : Around) (outer : List Env) (s : Shared) (H : Hp) (vs : List V) (Q : VK) (E : XK), Room k (A.deeper (PyProof.Rows.envOfC qual (defScope st) s.heap.objs.size f cdv)) → sp s.heap.objs.size vs H Q E →
      ∃ t, PSs (cxOf CX P w K mg base N qual (defScope st) f cdv A outer s H E) (defBody st) t ∧ t { nx := fun _ H' => Q .non H', rt := Q } (L2.start N vs) H) : FnOkN P w K mg base CX (k + 1) f fd ps sp := by
  obtain ⟨oc, od, kV, doc, pm, an, cdv, ct, osl, rfl, lk, hcd⟩ := F.ex
  refine ⟨len, fun A outer s H args us vs Q E hr e0 hb r hsp => ?_⟩
  have hl := len _ _ _ _ _ hsp
  have up : ∀ b o, base.get? b = some o → s.heap.get? b = some o := fun b o e => (e0.bs b o e).1
  have KX : K.In s.heap := e0.mod.kin.keeps up
  refine codeAny_call_function hr.depth (KX _ _ lk) rfl S.co S.gen rfl (PySem.W.codeRec_of KX hcd) (hb _ _ _ _ (wpAny_newFunctionEnv_cells S.kind (fun ⟨n, v⟩ hy => ?_) fun env he s1 x => ?_))
  · rcases S.par n (List.of_mem_zip hy).1 with q | q
    · exact .inl q
    · exact .inr ⟨q, PySem.W.cellsFrom_some _ _ _ (.inl q)⟩
  · subst he
    refine ⟨(e0.mod.nolimit.keeps up).keeps x.toInCall.keep, codeAny_func ?_⟩
    obtain ⟨t, ht, hq⟩ := hbody cdv A outer s H vs Q E (hr.deeper _) hsp
    have I : Inv (cxOf CX P w K mg base N qual (defScope st) f cdv A outer s H E) [] (L2.start N vs) H s1 := inv_start S hr.hd e0 hl r x
    refine wpAny_mono (ht.run [] s1 (L2.start N vs) H _ I hq) (fun fl s' hs => ?_) fun e s' hs => hs
    cases fl with
    | ret u =>
      obtain ⟨v, σ', H', J, rv, q⟩ := hs
      exact ⟨v, H', J.os, J.bare, J.base, J.hok, rv, q⟩
    | next =>
      obtain ⟨σ', H', J, q⟩ := hs
      exact ⟨V.non, H', J.os, J.bare, J.base, J.hok, rfl, q⟩
    | brk =>
      obtain ⟨_, _, _, q⟩ := hs
      exact False.elim q
    | cont =>
      obtain ⟨_, _, _, q⟩ := hs
      exact False.elim q
def rIterN (n : Nat) (K : PySem.W.Frag) : List V → Hp → VK → Prop := fun xs H Q => ∃ (l : Addr) (zs : List V), xs = [.ref l] ∧ SqL K H l zs ∧ ∀ it, H it = none → n ≤ it → Q (.ref it) (upd H it (ItO l it 0))
theorem call_iterN {X : Cx} : CallR X (.builtin "iter") (rIterN X.s_0.heap.objs.size X.K) := by
  intro pins s σ H xs us Q I r h
  obtain ⟨l, zs, rfl, hq, k⟩ := h
  cases r with
  | cons r1 r2 =>
    cases r2
    cases r1
    obtain ⟨its, rv, p, hz⟩ := I.list hq
    refine GNX.call_iter p.isList ?_
    have e : (s.heap.push (GNX.itObj l 0)).get? s.heap.objs.size = some (GNX.itObj l 0) := Heap.get?_push_at rfl rfl
    exact ⟨.ref s.heap.objs.size, _, I.laid (t' := s.toks) (fun b u q => Heap.get?_push_of_some _ q) (Nat.le_refl _) (itO_ok e), rfl, k _ (I.hok.fresh (Nat.le_refl _)) I.sz⟩
/-- a class whose instances hand on a list's iterator -/
structure OwnIt (K : PySem.W.Frag) (C f : Addr) : Prop where
  at_ : PySem.W.findIn K (.ref C) "__iter__" = some (some (.ref f))
  fn : PySem.W.isFn K (.ref f) = true
def iOwn (K : PySem.W.Frag) (C : Addr) (sp : Nat → Sp) (ta : TE) : TI := fun σ H R => ta σ H fun x H1 => ∃ a dx fs, x = .ref a ∧ H1 a = some (.ins C dx fs) ∧
  ∀ n, sp n [x] H1 (fun v H2 => ∃ l it xs, v = .ref it ∧ n ≤ it ∧ H2 it = some (ItO l it 0) ∧ SqL K (cut H2 it) l xs ∧ R (Itl K l) (cut H2 it)) E0
theorem sp_next {A : Around} {M : Model} {E : Value → Shared → Prop} {s : Shared} {l it : Addr} {i : Nat} {Q : Option Value → Shared → Prop} (h : s.heap.IsListIter it l i) (q : Q (some (.builtin "list_iterator.__next__")) s) : wpAny M A (specialOf (.ref it) "__next__") Q E s := by
  obtain ⟨o, ho, hc, _⟩ := h
  exact wpAny_specialOf ⟨o, ho, hc⟩ PySem.slot_listiter_next.lookup q
theorem pi_own {X : Cx} {CX : CXT} {k : Nat} {f C : Addr} {fd : FuncData} {ps : List Str} {sp : Nat → Sp} {tg e : Expr} {ta : TE} (O : OwnIt X.K C f) (F : FnOkN X.prog X.w X.K X.mg X.base CX k f fd ps sp) (hr : Room k X.A) (hb : Binds X.K fd ps []) (hx : Passes CX X E0) (he : PE X e ta) :
    PI X tg e (iOwn X.K C sp ta) := by
  refine ⟨fun pins s0 σ H0 R I0 h => thn (he.run pins s0 σ H0 _ I0 h) fun v s ⟨x, H, I, r, q⟩ => ?_⟩
  obtain ⟨a, dx, fs, rfl, ha, hs⟩ := q
  obtain rfl : v = Value.ref a := r
  obtain ⟨mA, O1, _⟩ := ins_get I.hok ha
  obtain ⟨od, J, _⟩ := O1.look
  obtain ⟨m, hF⟩ := I.fr
  refine PySem.W.owit_iter hF I.ok.mod.kin J O.at_ O.fn ?_
  have hl : [V.ref a].length = ps.length := F.len _ _ _ _ _ (hs 0)
  have b := hb s [Value.ref a] I.kIn (by rw [List.append_nil]; exact hl)
  rw [List.append_nil] at b
  refine wpAny_call (codeAny_mono (F.run X.A X.stack s H ⟨[.ref a], []⟩ [.ref a] [.ref a] _ E0 hr I.env0 b (.cons rfl .nil) (hs _)) fun r s' hq => ?_)
  cases r with
  | error er => exact hx pins σ H s er s' I hq
  | ok fl =>
    cases fl with
    | next => exact False.elim hq
    | brk => exact False.elim hq
    | cont => exact False.elim hq
    | ret u =>
      obtain ⟨v, H', os2, bare2, un2, hok2, rv, l, it, xs, rfl, hn, hi, hsq, hR⟩ := hq
      have I' : Inv X pins σ H' s' := I.call' (ch := []) os2 un2 hok2 bare2 fun b z => absurd z (by simp)
      obtain rfl : u = Value.ref it := rv
      have hg := itO_get I' hi
      have st : s'.heap.IsListIter it l 0 := ⟨_, hg, rfl, rfl⟩
      refine sp_next st ?_
      show PIE X pins σ tg R (.ref it) s'
      refine ⟨it, [it], _, Itl X.K l, cut H' it, rfl, inv_drop I' hi, turn_list l it, st, fun c hc => ?_, hR⟩
      obtain rfl : c = it := by simpa using hc
      exact fp_new I I' hn hi
end Z
set_option Elab.async false
set_option linter.all false
set_option maxRecDepth 100000
set_option maxHeartbeats 2000000
set_option autoImplicit false
namespace Z
open PySem L2
open Evl (Ex)
open Dat
theorem Tups.insU {H : Hp} {p C dx : Addr} {fs : List (Str × V)} {o : HO} (h : H p = some (.ins C dx fs)) : Tups H (L2.upd H p o) := fun a ys r => by
  rw [upd_ne (fun z => by rw [z, h] at r; cases r)]
  exact r
theorem Reps.int_map {K : PySem.W.Frag} {H : Hp} (ns : List Int) : Reps K H (ns.map V.int) ns := by
  induction ns with
  | nil => exact reps_nil
  | cons n ns ih => exact Reps.cons (rep_int n) ih
/-! ### what is walked as a list's items -/
section
variable {K : PySem.W.Frag} {α β : Type} [Dat α] [Dat β] {σ : L2.St} {G H : Hp} {te tl : TE} {ti : TI} {tt : TT} {i : Nat}
def EIt (K : PySem.W.Frag) {α : Type} [Dat α] (ti : TI) (σ : L2.St) (H : Hp) (xs : List α) : Prop := ∀ H1, Ex H H1 → ∀ R : It → Hp → Prop, (∀ l zs H2, Ex H1 H2 → SqL K H2 l zs → Reps K H2 zs xs → R (Itl K l) H2) → ti σ H1 R
theorem ei_list {xs : List α} (h : ER K tl σ H xs) : EIt K (iList K tl) σ H xs := fun H1 e R q => h H1 e _ fun v H2 e2 r => by
  obtain ⟨a, vs, rfl, s, r⟩ := Rep.list r
  exact ⟨a, rfl, ⟨vs, s⟩, q a vs H2 e2 s r⟩
theorem el_mapI {xs : List α} {f : α → β} [Flat β] (h : EIt K ti σ H xs) (he : ∀ x v H', x ∈ xs → Ex H H' → Rep K H' v x → ER K te ((wipe σ [i]).set i (some v)) H' (f x)) (hz : xs.length ≤ 100000) :
    EL K (tLc ti (gName i) tYes te [i]) σ H (xs.map f) := fun H0 e0 Q q => h H0 e0 _ fun a vs H1 e1 s r => by
  refine fun D hD => lc_list (K := K) (a := a) (xs := vs) (fun j H' => Ex H1 H' ∧ Own K H' D ((xs.take j).map f)) ⟨Evl.Ex.new hD, by simpa using Own.nil⟩ (fun j H' _ z => Evl.ex_l z.1 s) (fun j v H' hj z => ?_) (fun H' z => ?_)
  · obtain ⟨x, hx, rx⟩ := r.got hj
    have hlt : j < xs.length := (List.getElem?_eq_some_iff.mp hx).1
    refine ⟨wipe1 _, he x v H' (List.mem_of_getElem? hx) (e0.trans (e1.trans z.1)) (rx.mono z.1) H' (Ex.refl H') _ fun w H2 e2 rw' => ?_⟩
    obtain ⟨acc, h1, r1⟩ := (z.2.mono e2).ex
    refine ⟨acc, h1, Evl.sz_lt (by rw [r1.len, List.length_map, List.length_take]; omega), ex_mut (z.1.trans e2) hD, acc ++ [w], upd_same, ?_⟩
    rw [cut_upd, show xs.take (j + 1) = xs.take j ++ [x] by rw [List.take_succ, hx]; rfl, List.map_append]
    exact r1.append (Reps.cons (rw'.imm (Tups.cut h1)) reps_nil)
  · have e : xs.take vs.length = xs := by rw [r.len, List.take_length]
    rw [e] at z
    exact q D H' (fresh_back e1 hD) (e1.trans z.1) z.2
theorem el_idI {xs : List α} [Flat α] (h : EIt K ti σ H xs) (hi : i < σ.length) (hz : xs.length ≤ 100000) : EL K (tLc ti (gName i) tYes (tVar i) [i]) σ H xs := by
  have := el_mapI (i := i) (te := tVar i) (f := fun x : α => x) h (fun x v H' _ _ r => er_var (by
    rw [List.getElem?_set_self]
    show i < (σ.set i none).length
    rw [List.length_set]
    exact hi) r (Ex.refl _)) hz
  rwa [List.map_id'] at this
/-! ### raise C(e, ..), of values that stand for data -/
theorem mk_X1R {C : Addr} {f : Str} {x : α} {Q : XK} (h : ER K te σ H x) (k : ∀ v d H', H d = none → Ex H H' → Rep K H' v x → H' d = some (.xd [(f, v)]) → Q (.ref C) (some d) H') : tMkO C (spX1 K C f) [] (tCons te tNil) σ H Q :=
  h H (Ex.refl H) _ fun v H1 e1 r => mk_X1 (K := K) (te := tC v) (σ := σ) (H := H1) (v := v) ev_c fun d H' hd e' hx => k v d H' (fresh_back e1 hd) (e1.trans e') (r.mono e') hx
theorem mk_X2R {C : Addr} {f g : Str} {x : α} {y : β} {Q : XK} (h : ER K te σ H x) (h2 : ER K tl σ H y) (k : ∀ v u d H', H d = none → Ex H H' → Rep K H' v x → Rep K H' u y → H' d = some (.xd [(g, u), (f, v)]) → Q (.ref C) (some d) H') : tMkO C (spX2 K C f g) [] (tCons te (tCons tl tNil)) σ H Q :=
  h H (Ex.refl H) _ fun v H1 e1 r => h2 H1 e1 _ fun u H2 e2 r2 => mk_X2 (K := K) (te := tC v) (tu := tC u) (σ := σ) (H := H2) (v := v) (u := u) ev_c ev_c fun d H' hd e' hx => k v u d H' (fresh_back (e1.trans e2) hd) ((e1.trans e2).trans e') (r.mono (e2.trans e')) (r2.mono e') hx
/-- a field of a caught one -/
theorem er_xf {a C dd : Addr} {f : Str} {fs : List (Str × V)} {v : V} {x : α} (h : EV K te σ H (.ref a)) (hd : G dd = some (.xd fs)) (e : Ex G H) (hl : fs.lookup f = some v) (r : Rep K G v x) : ER K (tXf a (.ref C) (some dd) C f te) σ H x := fun H1 e1 Q q =>
  h H1 e1 _ fun H2 e2 => ⟨rfl, rfl, dd, fs, v, rfl, (e.trans (e1.trans e2)) _ _ hd, hl, q v H2 e2 (r.mono (e.trans (e1.trans e2)))⟩
theorem s_drop {D : Ends} (h : te σ H fun _ H' => D.nx σ H') : tDrop te D σ H := h
theorem s_mkS {C : Addr} {sp : Sp} {E : L2.St → XK} {xs : α} {Q : VK} (h : ER K te σ H xs) (k : ∀ v H1, Ex H H1 → Rep K H1 v xs → ∀ x dx, H1 x = none → H1 dx = none → dx ≠ x → sp [.ref x, v] (upd (upd H1 dx (.own x)) x (.ins C dx [])) (fun v H2 => v = .non ∧ Q (.ref x) H2) (E σ)) :
    tMakeS C sp E (tCons te tNil) σ H Q := h H (Ex.refl H) _ k
/-! ### isinstance of an own instance, of a caught error -/
theorem er_isiO {r C : Addr} {c : V} {cv : Value} {b : Bool} (h : EV K te σ H (.ref r)) (ty : ∀ H2, Ex H H2 → TyX K H2 (.ref r) (.ref C)) (cc : ClsV c cv) (hk : PySem.W.kitOne K (.ref C) cv = some b) :
    ER K (tCB (rIsi K) (tCons te (tCons (tC c) tNil))) σ H b := fun H1 e Q q =>
  h H1 e _ fun H2 e2 => ⟨.ref r, c, .ref C, cv, b, rfl, cc, ty H2 (e.trans e2), hk, q _ H2 e2 (rep_bool _)⟩
theorem er_isX {a C dd : Addr} {fs : List (Str × V)} {c : V} {cv : Value} {b : Bool} (h : EV K te σ H (.ref a)) (hd : G dd = some (.xd fs)) (e : Ex G H) (xc : ExcC K C) (hc : ∀ u, RelV c u → u = cv) (hk : PySem.W.kitOne K (.ref C) cv = some b) :
    ER K (tCB (rIsX K a (.ref C) (some dd)) (tCons te (tCons (tC c) tNil))) σ H b := fun H1 e1 Q q =>
  h H1 e1 _ fun H2 e2 => ⟨c, cv, b, C, dd, fs, rfl, rfl, xc, rfl, (e.trans (e1.trans e2)) _ _ hd, hc, hk, q _ H2 e2 (rep_bool _)⟩
end
end Z
set_option Elab.async false
set_option linter.all false
set_option maxRecDepth 100000
set_option maxHeartbeats 4000000
set_option autoImplicit false
namespace Z
open PySem PySem.Spec PyProof.Rows L2
open Sem (wp)
open AutoSeq1 (wpAny_loadPart')
/-! ### sorted(t), t a tuple of ints -/
section
variable {prog : Program} {w : World} {A : Around} {E : Value → Shared → Prop} {s : Shared}
theorem sorted_tup {l : Addr} {vs : List Value} {ltv : Value → Value → Bool} {Q : Value → Shared → Prop} (O : SrtO.Swo ltv) (hl : s.heap.IsTuple l vs.toArray) (hz : vs.length ≤ sizeLine)
    (hS : 2 ≤ vs.length → ∀ (h₁ : Heap) (a : Addr), h₁.get? a = some (seqObj "list" vs.toArray 0) → (∀ b o, s.heap.get? b = some o → b ≠ a ∧ h₁.get? b = some o) → SrtO.SortableO prog w A.in1.in1 { s with heap := h₁ } a vs ltv)
    (h : ∀ (out : List Value) (h1 h' : Heap), SrtO.Srtd ltv out → SrtO.Stb ltv out vs → (∀ b o, s.heap.get? b = some o → h1.get? b = some o) → (∀ b o, h1.get? b = some o → h'.get? b = some o) → (∃ e, h'.get? h1.objs.size = some (seqObj "list" out.toArray e)) → Q (.ref h1.objs.size) { s with heap := h' }) :
    wpAny (model prog w) A (call (.builtin "sorted") [.ref l]) Q E s := by
  obtain ⟨o, ho, hc, n, hd⟩ := hl
  refine Calls.call_function_entry kind_sorted plain_sorted entry_sorted (args_sorted1 _) ?_
  unfold Builtin.«sorted»
  refine wpAny_bind (m := checkCount "sorted" 1 1 _) (wpAny_pure ?_)
  refine wpAny_bind (wpAny_collect_seq l (.inr rfl) ho hc hd (fun h1 hk => ?_) (by rw [List.size_toArray]; exact hz))
  have e : vs.toArray.toList = vs := by simp
  rw [e]
  refine wpAny_bind (wpAny_newList ?_ hz)
  have hoL : (h1.push (seqObj "list" vs.toArray 0)).get? h1.objs.size = some (seqObj "list" vs.toArray 0) := Heap.get?_push_size _ rfl
  have keep : ∀ b o, s.heap.get? b = some o → b ≠ h1.objs.size ∧ (h1.push (seqObj "list" vs.toArray 0)).get? b = some o := fun b o q =>
    ⟨Nat.ne_of_lt (Heap.lt_size (hk _ _ q)), Heap.get?_push_of_some _ (hk _ _ q)⟩
  show wpAny _ _ _ _ _ { s with heap := h1.push (seqObj "list" vs.toArray 0) }
  refine wpAny_bind (wpAny_holding (wpAny_call_entry slot_list_sort ⟨_, hoL, rfl⟩ entry_list_sort (SrtO.list_sort_ord O hoL hz (fun h2 => hS h2 _ _ hoL keep) fun out hs hb => ⟨_, rfl, ?_⟩) (args_list_sort _)))
  refine wpAny_pure ⟨_, rfl, h out h1 _ hs hb hk (fun b o hq => ?_) (sortedHeap_at (vs := vs) (out := out.toArray) hoL)⟩
  show (sortedHeap (h1.push (seqObj "list" vs.toArray 0)) h1.objs.size vs out.toArray).get? b = some o
  rw [sortedHeap_old (Nat.ne_of_lt (Heap.lt_size hq)) (by rw [Heap.size_push]; exact Nat.lt_succ_of_lt (Heap.lt_size hq))]
  exact Heap.get?_push_of_some _ hq
end
def rSortedIT (K : PySem.W.Frag) : List V → Hp → VK → Prop := fun vs H Q => ∃ (a : Addr) (ns : List Int), vs = [V.ref a] ∧ SqT K H a (ns.map V.int) ∧
  ∀ (ns' : List Int) (p : Addr), ns'.Perm ns → ns'.Pairwise (· ≤ ·) → H p = none → Q (.ref p) (upd H p (.lst (ns'.map V.int)))
theorem cr_sortedIT {X : Cx} : CallR X (.builtin "sorted") (rSortedIT X.K) := by
  intro pins s σ H vs us Q I r h
  obtain ⟨a, ns, rfl, hs, q⟩ := h
  obtain ⟨its, rv, hT, hz⟩ := I.tuple hs
  rw [Vals.ref1 r]
  have hi := rv.ints
  refine sorted_tup SrtO.swo_int hT (by rw [← rv.length]; exact hz) (fun h2 h₁ a' _ _ => SrtO.ints_sortable hi h2) fun out h1' h' h1 h2 hk1 hk2 hp => ?_
  have I1 : Inv X pins σ H { s with heap := h1' } := I.kept (t' := s.toks) hk1
  obtain ⟨k1, k2, k3⟩ := SrtO.ints_out hi h1 h2
  obtain ⟨ep, hp⟩ := hp
  have hlen : ((out.map SrtO.iv).map V.int).length ≤ sizeLine := by
    rw [List.length_map, k2.length_eq]
    rw [List.length_map] at hz
    exact hz
  exact ⟨.ref _, upd H h1'.objs.size (.lst ((out.map SrtO.iv).map V.int)), I1.laid (t' := s.toks) hk2 (Nat.le_refl _) ⟨hlen, out, ep, vals_of_ints k1, hp⟩, rfl, q _ _ k2 k3 (I1.hok.fresh (Nat.le_refl _))⟩
/-! ### enumerate(t), t a tuple -/
theorem meets_enum_tup (l : Addr) (items : Array Value) (n : Nat) (dct : Option Addr) (sl : Array (Option Value)) :
    Meets (Builtin.«enumerate.__new__» ⟨[.type "enumerate", .ref l], []⟩) (fun _ R s => s.heap.get? l = some { cls := .type "tuple", dict := dct, data := .seq items n, slots := sl } ∧
      R (.ok (.ret (.ref (s.heap.push { cls := .type "tuple_iterator", data := .fields #[.ref l, .int 0 0] }).objs.size)))
        { s with heap := (s.heap.push { cls := .type "tuple_iterator", data := .fields #[.ref l, .int 0 0] }).push { cls := .type "enumerate", data := .fields #[.none, .bool false, .ref s.heap.objs.size, rawInt 0, .none, .none] } }) :=
  .of_wp fun prog w A R s h => by
    obtain ⟨hp, g, d, tk, os⟩ := s; obtain ⟨hl, h⟩ := h
    have hsub := sub_enumerate
    have hL : Heap.IsTuple (Shared.heap ⟨hp, g, d, tk, os⟩) l items := ⟨_, hl, rfl, n, rfl⟩
    wp_walk using wpAny_loadPart' hl
    refine wpAny_stack_any fun st => wpAny_pure ?_
    split
    · rename_i c _ _ _ _ _
      cases (c == Value.type "enumerate")
      · wp_walk using wpAny_loadPart' hl, wpAny_pyIter_tuple hL
        exact ⟨_, rfl, h⟩
      · wp_walk using wpAny_loadPart' hl, wpAny_pyIter_tuple hL
        exact ⟨_, rfl, h⟩
    · wp_walk using wpAny_loadPart' hl, wpAny_pyIter_tuple hL
      exact ⟨_, rfl, h⟩
section
variable {prog : Program} {w : World} {A : Around} {E : Value → Shared → Prop} {s : Shared}
theorem call_enum_tup {l : Addr} {items : Array Value} {Q : Value → Shared → Prop} (hL : s.heap.IsTuple l items)
    (h : ∀ h', IsEnum h' (s.heap.objs.size + 1) s.heap.objs.size 0 .none → h'.IsTupleIter s.heap.objs.size l 0 → (∀ b o, s.heap.get? b = some o → h'.get? b = some o) → Q (.ref (s.heap.objs.size + 1)) { s with heap := h' }) :
    wpAny (model prog w) A (call (.type "enumerate") [.ref l]) Q E s := by
  obtain ⟨⟨c, dct, dt, sl⟩, hl, hc, n, hd⟩ := hL
  replace hc : c = .type "tuple" := hc
  replace hd : dt = .seq items n := hd
  subst hc hd
  refine callType_new F.called_enumerate (by decide) (F.typeCall_enumerate_1 _) (F.newCall_enumerate_1 _) (fun obj => F.args_object_init_2 obj _) F.entry_enumerate_new
    (meets_enum_tup l items n dct sl) ⟨hl, ?_⟩
  have hz : (s.heap.push { cls := .type "tuple_iterator", data := .fields #[.ref l, .int 0 0] }).objs.size = s.heap.objs.size + 1 := Heap.size_push ..
  show _ ∧ _
  rw [hz]
  have he : IsEnum ((s.heap.push { cls := .type "tuple_iterator", data := .fields #[.ref l, .int 0 0] }).push
      { cls := .type "enumerate", data := .fields #[.none, .bool false, .ref s.heap.objs.size, rawInt 0, .none, .none] }) (s.heap.objs.size + 1) s.heap.objs.size 0 .none := by
    have := Heap.get?_push_size (s.heap.push { cls := .type "tuple_iterator", data := .fields #[.ref l, .int 0 0] })
      (o := { cls := .type "enumerate", data := .fields #[.none, .bool false, .ref s.heap.objs.size, rawInt 0, .none, .none] }) rfl
    rw [hz] at this; exact this
  exact ⟨⟨_, he, rfl⟩, h _ he ⟨_, Heap.get?_push_of_some _ (Heap.get?_push_size _ rfl), rfl, rfl⟩ fun b o x => Heap.get?_push_of_some _ (Heap.get?_push_of_some _ x)⟩
end
/-- the tuple at a, each item in a new pair -/
def IteT (K : PySem.W.Frag) (a : Addr) : It :=
  ⟨fun i H => ∃ (xs : List V) (x : V), SqT K H a xs ∧ xs[i]? = some x, fun i H v H' => ∃ T x, v = .ref T ∧ H T = none ∧ H' = upd H T (.tup [.int (i : Nat), x]) ∧ ∀ xs, SqT K H a xs → xs[i]? = some x, fun i H => ∃ xs : List V, SqT K H a xs ∧ xs.length = i⟩
theorem tup_inj {X : Cx} {pins : List (Addr × Obj)} {s : Shared} {σ : L2.St} {H : Hp} (I : Inv X pins σ H s) {a : Addr} {xs ys : List V} (h : SqT X.K H a xs) (h' : SqT X.K H a ys) : xs = ys := I.tuple_inj h h'
theorem apart1 {h : Heap} {a it : Addr} {i : Nat} {xs : Array Value} (p : h.IsTuple a xs) (q : h.IsTupleIter it a i) : a ≠ it := fun z => by
  obtain ⟨o, ho, hc, _⟩ := p
  obtain ⟨o', ho', hc', _⟩ := q
  rw [z, ho'] at ho
  cases ho
  rw [hc'] at hc
  injection hc with hc
  exact absurd hc (by decide)
theorem apart2 {h : Heap} {a e it : Addr} {c : Int} {old : Value} {xs : Array Value} (q : IsEnum h e it c old) (p : h.IsTuple a xs) : e ≠ a := fun z => by
  obtain ⟨o, ho, hc, _⟩ := p
  have q : h.get? e = _ := q
  rw [z, ho] at q
  cases q
  injection hc with hc
  exact absurd hc (by decide)
theorem turn_enumT {P : Program} {w : World} {K : PySem.W.Frag} {elts : List Expr} {kk : Nat} {tpos : Pos} (a e it : Addr) :
    Turn P w K (.Tuple elts kk tpos) (IteT K a) [e, it] e (fun i h => (∃ old, IsEnum h e it ((i : Nat) : Int) old) ∧ h.IsTupleIter it a i ∧ e ≠ it) where
  mem := by simp
  obj := fun i h st b hb => by
    obtain ⟨⟨old, he⟩, ⟨o, ho, hc, hd⟩, _⟩ := st
    rcases List.mem_cons.mp hb with z | hb
    · exact z ▸ ⟨_, he, fun v q => nomatch q⟩
    · rcases List.mem_cons.mp hb with z | hb
      · exact z ▸ ⟨o, ho, fun v q => by rw [hd] at q; cases q⟩
      · cases hb
  keep := fun i h h' st k => let ⟨⟨old, he⟩, hi, hne⟩ := st; ⟨⟨old, k e (List.mem_cons_self ..) _ he⟩, hi.at fun o q => k it (List.mem_cons_of_mem _ (List.mem_cons_self ..)) o q, hne⟩
  item := by
    intro X hP hw hK hc i pins s σ H E I hf st hg
    subst hP hw hK
    obtain ⟨⟨old, he⟩, hit, hne⟩ := st
    obtain ⟨xs, x, hq, hx⟩ := hg
    obtain ⟨its, rv, p, hz⟩ := I.tuple hq
    obtain ⟨u, hu, ru⟩ := rv.get hx
    have hie : it ∈ [e, it] := List.mem_cons_of_mem _ (List.mem_cons_self ..)
    have hai : a ≠ it := apart1 p hit
    have hae : e ≠ a := apart2 he p
    have hel : e < s.heap.objs.size := Heap.lt_size he
    have hil : it < s.heap.objs.size := by obtain ⟨_, q, _⟩ := hit; exact Heap.lt_size q
    have hlt : i < its.toArray.size := by
      rw [List.size_toArray]
      exact (List.getElem?_eq_some_iff.mp hu).1
    refine wpAny_pyNext_enum_itemD (Draws.tuple (A := X.A.in1) (show X.A.in1.handled = none from I.ok.hd hc) it a hai its.toArray) he ⟨hit, p⟩ hlt hne (by
      intro z
      rcases List.mem_cons.mp z with z | z
      · exact hne z
      · rcases List.mem_cons.mp z with z | z
        · exact hae z
        · cases z) fun y h' tk hy ho hit' hT hsz hk => ?_
    obtain rfl : y = u := by
      have : its[i]? = some y := by simpa using hy
      rw [hu] at this
      exact (Option.some.inj this).symm
    refine ⟨_, rfl, wpAny_letOwnedTupleGo_enum (s := { s with heap := h', toks := tk + 1 }) ho fun h'' he' sb => ?_⟩
    have hT2 : h''.get? s.heap.objs.size = some { cls := .type "tuple", data := .seq #[.int i tk, y] } := (sb.2 _ (Nat.ne_of_gt hel)).trans hT
    have new : ObjOk X.prog X.w (upd H s.heap.objs.size (.tup [.int (i : Nat), x])) h'' s.heap.objs.size (.tup [.int (i : Nat), x]) :=
      ⟨by show 2 ≤ sizeLine; decide, [.int i tk, y], .cons ⟨_, rfl⟩ (.cons ru .nil), ⟨_, hT2, rfl, _, rfl⟩⟩
    have I1 : Inv X pins σ (upd H s.heap.objs.size (.tup [.int (i : Nat), x])) { s with heap := h'', toks := tk + 1 } :=
      I.turnedNew (ch := [e, it]) (fun b ob hb q => (sb.2 b (fun z => hb (by rw [z]; exact List.mem_cons_self ..))).trans (hk b ob (fun z => hb (by rw [z]; exact List.mem_cons_self ..)) (fun z => hb (by rw [z]; exact hie)) q)) hf (Nat.le_refl _) new
    refine ⟨.ref s.heap.objs.size, _, I1, rfl, ⟨_, x, rfl, I.hok.fresh (Nat.le_refl _), rfl, fun ys hy => by rw [I.tuple_inj hy hq]; exact hx⟩, ⟨⟨y, ?_⟩, hit'.1.at fun o q => (sb.2 it (Ne.symm hne)).trans q, hne⟩, fun b hb => ?_⟩
    · rw [show ((i + 1 : Nat) : Int) = (i : Int) + 1 by omega]
      exact he'
    · have hb' : b < s.heap.objs.size := by
        rcases List.mem_cons.mp hb with z | z
        · exact z ▸ hel
        · rcases List.mem_cons.mp z with z | z
          · exact z ▸ hil
          · cases z
      rw [upd_ne (Nat.ne_of_lt hb')]
      exact (hf b hb).1
  done := by
    intro X hP hw hK hc i pins s σ H E I hf st hg
    subst hP hw hK
    obtain ⟨⟨old, he⟩, hit, hne⟩ := st
    obtain ⟨xs, hq, hx⟩ := hg
    obtain ⟨its, rv, p, hz⟩ := I.tuple hq
    have hie : it ∈ [e, it] := List.mem_cons_of_mem _ (List.mem_cons_self ..)
    obtain ⟨f0, f1, f2, f3, f4, f5⟩ := hf it hie
    have hai : a ≠ it := apart1 p hit
    have hl := rv.length
    have hit : s.heap.IsTupleIter it a its.toArray.size := by
      rw [List.size_toArray, ← hl, hx]
      exact hit
    exact wpAny_pyNext_enum_endD (Draws.tuple (A := X.A.in1) (show X.A.in1.handled = none from I.ok.hd hc) it a hai its.toArray) he ⟨hit, p⟩ fun h' eb => ⟨rfl, I.turned (t' := s.toks) (fun b o hb q => eb b o hb q) f0 f1 f3 f4 f5⟩
  self := fun A i s Q E st h => let ⟨⟨_, he⟩, _⟩ := st; wpAny_pyIter_enum he h
def iEnumT (K : PySem.W.Frag) (ta : TA) : TI := fun σ H R => ta σ H fun vs H1 => ∃ a xs, vs = [.ref a] ∧ SqT K H1 a xs ∧ R (IteT K a) H1
theorem pi_enumT {X : Cx} {e : Expr} {ta : TA} {p pos tpos : Pos} {elts : List Expr} {kk : Nat} (hg : Gl X "enumerate") (hm : X.mg "enumerate" = none) (ha : PA X [e] ta) (hs : starEach [e] X.env = [(false, eval e X.env)] := by rfl) :
    PI X (.Tuple elts kk tpos) (.Call (.Name "enumerate" p) [e] [] pos) (iEnumT X.K ta) := by
  refine ⟨fun pins s σ H R I h => ?_⟩
  refine Call_ (ld_blt I hg hm boot_enumerate (PyProof.Rows.callWith_type1 (thn (ha.run pos pins s σ H _ I h) fun us s1 ⟨vs, H1, I1, r1, q1⟩ => ?_) hs rfl))
  obtain ⟨a, xs, rfl, hq, q⟩ := q1
  cases r1 with
  | cons r rr =>
    cases rr
    cases r
    obtain ⟨its, rv, p', hz⟩ := I1.tuple hq
    refine call_enum_tup p' fun h' he hit hk => wpAny_pyIter_enum he ?_
    have I2 : Inv X pins σ H1 { s1 with heap := h' } := I1.kept (t' := s1.toks) hk
    refine ⟨s1.heap.objs.size + 1, [s1.heap.objs.size + 1, s1.heap.objs.size], _, _, H1, rfl, I2, turn_enumT a (s1.heap.objs.size + 1) s1.heap.objs.size, ⟨⟨.none, he⟩, hit, Nat.succ_ne_self _⟩, fun b hb => ?_, q⟩
    have hle : s1.heap.objs.size ≤ b := by
      rcases List.mem_cons.mp hb with z | z
      · rw [z]; exact Nat.le_succ _
      · rcases List.mem_cons.mp z with z | z
        · rw [z]; exact Nat.le_refl _
        · cases z
    exact I1.fpOk hle (I1.hok.fresh hle)
end Z
set_option Elab.async false
set_option linter.all false
set_option maxRecDepth 100000
set_option maxHeartbeats 2000000
set_option autoImplicit false
namespace Z
open PySem L2
open Evl (Ex)
open Dat
/-! ### sorted lists by a code -/
def srtK {α : Type} (f : α → Int) (xs : List α) : List α := xs.mergeSort fun a b => decide (f a ≤ f b)
section
variable {α : Type} {f : α → Int} {xs ys : List α}
theorem srtK_perm : (srtK f xs).Perm xs := List.mergeSort_perm _ _
theorem srtK_pw : (srtK f xs).Pairwise fun a b => f a ≤ f b := by
  have h := List.pairwise_mergeSort (le := fun a b : α => decide (f a ≤ f b)) (fun a b c h1 h2 => by
    simp at h1 h2 ⊢
    omega) (fun a b => by
    simp
    omega) xs
  exact h.imp fun h => by simpa using h
theorem srtK_uniq (hp : ys.Perm xs) (hs : ys.Pairwise fun a b => f a ≤ f b) (inj : ∀ a b, a ∈ xs → b ∈ xs → f a = f b → a = b) : ys = srtK f xs :=
  List.Perm.eq_of_pairwise (le := fun a b => f a ≤ f b) (fun a b ha hb h1 h2 => inj a b (hp.mem_iff.mp ha) (srtK_perm.mem_iff.mp hb) (by omega)) hs srtK_pw (hp.trans srtK_perm.symm)
theorem srtK_mem {x : α} : x ∈ srtK f xs ↔ x ∈ xs := srtK_perm.mem_iff
theorem srtK_len : (srtK f xs).length = xs.length := srtK_perm.length_eq
/-- two sorted lists with no item twice and the same items -/
theorem srt_set (inj : ∀ a b, a ∈ xs → b ∈ xs → f a = f b → a = b) (h1 : xs.Pairwise fun a b => f a ≤ f b) (h2 : ys.Pairwise fun a b => f a ≤ f b) (n1 : xs.Nodup) (n2 : ys.Nodup) (hm : ∀ x, x ∈ xs ↔ x ∈ ys) : xs = ys :=
  List.Perm.eq_of_pairwise (le := fun a b => f a ≤ f b) (fun a b ha hb h1 h2 => inj a b ha ((hm b).mpr hb) (by omega)) h1 h2 ((List.perm_ext_iff_of_nodup n1 n2).mpr hm)
end
theorem code_inj {B : Int} : ∀ {xs ys : List Int}, xs.length = ys.length → TS.Bd B xs → TS.Bd B ys → TS.code B xs = TS.code B ys → xs = ys
  | [], [], _, _, _, _ => rfl
  | x :: xs, y :: ys, hl, hx, hy, h => by
    have hl' : xs.length = ys.length := Nat.succ.inj hl
    have bx : TS.Bd B xs := fun m hm => hx m (List.mem_cons_of_mem _ hm)
    have by' : TS.Bd B ys := fun m hm => hy m (List.mem_cons_of_mem _ hm)
    rcases Int.lt_trichotomy x y with c | c | c
    · have := TS.code_lt hl' bx by' c
      omega
    · subst c
      have e : TS.code B xs = TS.code B ys := by
        have a := @TS.code_same B x xs ys hl'
        have b := @TS.code_same B x ys xs hl'.symm
        rcases Int.lt_trichotomy (TS.code B xs) (TS.code B ys) with d | d | d
        · have := a.mpr d; omega
        · exact d
        · have := b.mpr d; omega
      rw [code_inj hl' bx by' e]
    · have := TS.code_lt hl'.symm by' bx c
      omega
section
variable {K : PySem.W.Frag} {α β : Type} [Dat α] [Dat β] {σ : L2.St} {G H H' : Hp} {te ta tb tu : TE} {tt : TT} {i j : Int}
theorem Reps.ints' {vs : List V} {xs : List Int} (r : Reps K H vs xs) : vs = xs.map V.int := Reps.ints r
/-- a list of values in another order stands for the data in that order -/
theorem Reps.perm {vs ws : List V} (p : ws.Perm vs) : ∀ {xs : List α}, Reps K H vs xs → ∃ ys, ys.Perm xs ∧ Reps K H ws ys := by
  induction p with
  | nil => exact fun {xs} r => ⟨xs, List.Perm.refl _, r⟩
  | cons v p ih =>
    intro xs r
    obtain ⟨x, xs', e, h1, h2⟩ : ∃ x xs', xs = x :: xs' ∧ Rep K H v x ∧ Reps K H _ xs' := by
      cases xs with
      | nil => cases Reps.len r
      | cons x xs' =>
        obtain ⟨_, _, e, h1, h2⟩ := Reps.inv r
        cases e
        exact ⟨x, xs', rfl, h1, h2⟩
    subst e
    obtain ⟨ys, hy, ry⟩ := ih h2
    exact ⟨x :: ys, hy.cons x, Reps.cons h1 ry⟩
  | swap u v ws =>
    intro xs r
    cases xs with
    | nil => cases Reps.len r
    | cons x xs =>
      cases xs with
      | nil => cases Nat.succ.inj (Reps.len r)
      | cons y xs =>
        obtain ⟨_, _, e, h1, h2⟩ := Reps.inv r
        cases e
        obtain ⟨_, _, e, h3, h4⟩ := Reps.inv h2
        cases e
        exact ⟨y :: x :: xs, List.Perm.swap x y xs, Reps.cons h3 (Reps.cons h1 h4)⟩
  | trans p q ih1 ih2 =>
    intro xs r
    obtain ⟨ys, hy, ry⟩ := ih2 r
    obtain ⟨zs, hz, rz⟩ := ih1 ry
    exact ⟨zs, hz.trans hy, rz⟩
theorem el_sortI {xs : List Int} (h : ER K te σ H xs) : EL K (tCB (rSortedI K) (tCons te tNil)) σ H (srtK (fun x : Int => x) xs) := fun H1 e Q q => h H1 e _ fun v H2 e2 r => by
  obtain ⟨a, vs, rfl, s, r⟩ := Rep.list r
  obtain rfl := Reps.ints r
  refine ⟨a, xs, rfl, s, fun ns p hp hs hn => ?_⟩
  obtain rfl : ns = srtK (fun x : Int => x) xs := srtK_uniq hp hs fun a b _ _ h => h
  exact q p _ (fresh_back e2 hn) (e2.trans (Evl.Ex.new hn)) ⟨_, upd_same, Reps.int_map _⟩
theorem el_sortIT {xs : Tp Int} (h : ER K te σ H xs) : EL K (tCB (rSortedIT K) (tCons te tNil)) σ H (srtK (fun x : Int => x) (show List Int from xs)) := fun H1 e Q q => h H1 e _ fun v H2 e2 r => by
  obtain ⟨a, vs, rfl, s, r⟩ := Rep.tup r
  obtain rfl := Reps.ints r
  refine ⟨a, xs, rfl, s, fun ns p hp hs hn => ?_⟩
  obtain rfl : ns = srtK (fun x : Int => x) (show List Int from xs) := srtK_uniq hp hs fun a b _ _ h => h
  exact q p _ (fresh_back e2 hn) (e2.trans (Evl.Ex.new hn)) ⟨_, upd_same, Reps.int_map _⟩
def codeT (B : Int) (t : Tp Int) : Int := TS.code B (show List Int from t)
/-- rows of d ints in [0, B) -/
def Rows (d : Nat) (B : Int) (xs : List (Tp Int)) : Prop := ∀ t : Tp Int, t ∈ xs → List.length t = d ∧ TS.Bd B (show List Int from t)
theorem Rows.inj {d : Nat} {B : Int} {xs : List (Tp Int)} (h : Rows d B xs) : ∀ a b : Tp Int, a ∈ xs → b ∈ xs → codeT B a = codeT B b → a = b := fun a b ha hb e =>
  code_inj ((h a ha).1.trans (h b hb).1.symm) (h a ha).2 (h b hb).2 e
theorem tupI_rep {v : V} {t : Tp Int} (r : Rep K H v t) : TupI K H v (show List Int from t) := by
  obtain ⟨a, vs, rfl, s, r⟩ := Rep.tup r
  obtain rfl := Reps.ints r
  exact ⟨a, rfl, s⟩
theorem el_sortU {d : Nat} {B : Int} {xs : List (Tp Int)} (h : ER K te σ H xs) (hl : xs.length < 64) (hr : Rows d B xs) : EL K (tCB (rSortU K d B) (tCons te tNil)) σ H (srtK (codeT B) xs) := fun H1 e Q q => h H1 e _ fun v H2 e2 r => by
  obtain ⟨a, vs, rfl, s, r⟩ := Rep.list r
  refine ⟨a, vs, rfl, s, by rw [r.len]; exact hl, fun v hv => ?_, fun ws p hp hs hn => ?_⟩
  · obtain ⟨k, hk⟩ := List.getElem?_of_mem hv
    obtain ⟨t, ht, rt⟩ := r.got hk
    have hm := hr t (List.mem_of_getElem? ht)
    exact ⟨_, tupI_rep rt, hm.1, hm.2⟩
  · obtain ⟨ys, hy, ry⟩ := Reps.perm hp r
    have e : ys = srtK (codeT B) xs := by
      refine srtK_uniq hy ?_ hr.inj
      rw [List.pairwise_iff_getElem] at hs ⊢
      intro i j hi hj hij
      have li := ry.len
      obtain ⟨v1, h1, r1⟩ := ry.get (List.getElem?_eq_getElem hi)
      obtain ⟨v2, h2, r2⟩ := ry.get (List.getElem?_eq_getElem hj)
      obtain ⟨_, e1⟩ := List.getElem?_eq_some_iff.mp h1
      obtain ⟨_, e2⟩ := List.getElem?_eq_some_iff.mp h2
      have := hs i j (by omega) (by omega) hij
      rw [e1, e2] at this
      exact this _ _ (tupI_rep r1) (tupI_rep r2)
    subst e
    exact q p _ (fresh_back e2 hn) (e2.trans (Evl.Ex.new hn)) ⟨ws, upd_same, by rw [cut_updn hn]; exact ry⟩
/-! ### any, all, min, max -/
theorem Reps.bls : ∀ {vs : List V} {xs : List Bool}, Reps K H vs xs → vs = xs.map V.bl
  | [], [], _ => rfl
  | v :: vs, [], r => by cases Reps.len r
  | [], x :: xs, r => by cases Reps.len r
  | v :: vs, x :: xs, r => by
    obtain ⟨_, _, e, h1, h2⟩ := Reps.inv r
    cases e
    rw [Rep.bool h1, Reps.bls h2]
    rfl
theorem er_all {bs : List Bool} (h : ER K te σ H bs) : ER K (tCB (rAll K) (tCons te tNil)) σ H (bs.all id) := fun H1 e Q q => h H1 e _ fun v H2 e2 r => by
  obtain ⟨a, vs, rfl, s, r⟩ := Rep.list r
  obtain rfl := Reps.bls r
  exact ⟨a, bs, rfl, s, q _ H2 e2 (rep_bool _)⟩
theorem er_any {bs : List Bool} (h : ER K te σ H bs) : ER K (tCB (rAny K) (tCons te tNil)) σ H (bs.any id) := fun H1 e Q q => h H1 e _ fun v H2 e2 r => by
  obtain ⟨a, vs, rfl, s, r⟩ := Rep.list r
  obtain rfl := Reps.bls r
  exact ⟨a, bs, rfl, s, q _ H2 e2 (rep_bool _)⟩
theorem er_min2 (ha : ER K ta σ H i) (hb : ER K tb σ H j) : ER K (tCB (fun xs H Q => ∃ i j, xs = [.int i, .int j] ∧ Q (.int (if j < i then j else i)) H) (tCons ta (tCons tb tNil))) σ H (min i j) := fun H1 e Q q =>
  ha.evI H1 e _ fun H2 e2 => hb.evI H2 (e.trans e2) _ fun H3 e3 => ⟨i, j, rfl, by
    have : (if j < i then j else i) = min i j := by
      split <;> omega
    rw [this]
    exact q _ H3 (e2.trans e3) (rep_int _)⟩
theorem er_max2 (ha : ER K ta σ H i) (hb : ER K tb σ H j) : ER K (tCB (fun xs H Q => ∃ i j, xs = [.int i, .int j] ∧ Q (.int (if j > i then j else i)) H) (tCons ta (tCons tb tNil))) σ H (max i j) := fun H1 e Q q =>
  ha.evI H1 e _ fun H2 e2 => hb.evI H2 (e.trans e2) _ fun H3 e3 => ⟨i, j, rfl, by
    have : (if j > i then j else i) = max i j := by
      split <;> omega
    rw [this]
    exact q _ H3 (e2.trans e3) (rep_int _)⟩
/-! ### x in xs, of data -/
theorem any_mem {x : α} {xs : List α} [DecidableEq α] [DatEq α] : ((xs.map enc).any fun z => PyData.eqv z (enc x)) = decide (x ∈ xs) := by
  induction xs with
  | nil => rfl
  | cons y ys ih =>
    rw [List.map_cons, List.any_cons, ih, DatEq.eqv]
    by_cases h : y = x
    · subst h
      simp
    · have h' : ¬ x = y := fun z => h z.symm
      simp [h, h']
theorem er_inD {x : α} {xs : List α} [DecidableEq α] [DatEq α] {n : Nat} [Deep α n] (ha : ER K ta σ H x) (hb : ER K tb σ H xs) (hn : n < 64 := by decide) : ER K (tOp (rInD K) ta tb) σ H (decide (x ∈ xs)) := fun H1 e Q q =>
  ha H1 e _ fun v H2 e2 r2 => hb H2 (e.trans e2) _ fun w H3 e3 r3 => ⟨enc x, xs.map enc, dq_dp _ _ (DatEq.lay _) (r2.mono e3), dq_dp _ _ (DatEq.lay xs) r3, by
      unfold SeqAt.shaped; rw [DatEq.lay]; exact decide_eq_true (Nat.le_trans (Deep.dep x) (Nat.le_of_lt hn)), by
      show SeqAt.shaped (enc xs) = true
      unfold SeqAt.shaped
      rw [DatEq.lay]
      exact decide_eq_true (Nat.le_trans (Deep.dep (n := n + 1) xs) hn), by rw [any_mem]; exact q _ H3 (e2.trans e3) (rep_bool _)⟩
theorem er_notInD {x : α} {xs : List α} [DecidableEq α] [DatEq α] {n : Nat} [Deep α n] (ha : ER K ta σ H x) (hb : ER K tb σ H xs) (hn : n < 64 := by decide) : ER K (tOp (rNotInD K) ta tb) σ H (!decide (x ∈ xs)) := fun H1 e Q q =>
  ha H1 e _ fun v H2 e2 r2 => hb H2 (e.trans e2) _ fun w H3 e3 r3 => ⟨enc x, xs.map enc, dq_dp _ _ (DatEq.lay _) (r2.mono e3), dq_dp _ _ (DatEq.lay xs) r3, by
      unfold SeqAt.shaped; rw [DatEq.lay]; exact decide_eq_true (Nat.le_trans (Deep.dep x) (Nat.le_of_lt hn)), by
      show SeqAt.shaped (enc xs) = true
      unfold SeqAt.shaped
      rw [DatEq.lay]
      exact decide_eq_true (Nat.le_trans (Deep.dep (n := n + 1) xs) hn), by rw [any_mem]; exact q _ H3 (e2.trans e3) (rep_bool _)⟩
/-- x in xs of flat things: ints -/
theorem flat_ints (xs : List Int) : (xs.map V.int).all flatV = true := by
  induction xs with
  | nil => rfl
  | cons x xs ih => rw [List.map_cons, List.all_cons, ih]; rfl
theorem inV_ints (x : Int) (xs : List Int) : inV (.int x) (xs.map V.int) = decide (x ∈ xs) := by
  induction xs with
  | nil => rfl
  | cons y ys ih =>
    unfold inV at ih ⊢
    rw [List.map_cons, List.any_cons, ih]
    show ((y == x) || _) = _
    by_cases h : y = x
    · subst h
      simp
    · have h' : ¬ x = y := fun z => h z.symm
      simp [h, h']
theorem er_inI {x : Int} {xs : List Int} (ha : ER K ta σ H x) (hb : ER K tb σ H xs) : ER K (tOp (rIn K false) ta tb) σ H (decide (x ∈ xs)) := fun H1 e Q q => ha.evI H1 e _ fun H2 e2 => hb H2 (e.trans e2) _ fun w H3 e3 r => by
  obtain ⟨p, vs, rfl, s, r⟩ := Rep.list r
  obtain rfl := Reps.ints r
  refine ⟨p, _, rfl, .inl s, rfl, flat_ints xs, ?_⟩
  show Q (.bl (inV _ _)) H3
  rw [inV_ints]
  exact q _ H3 (e2.trans e3) (rep_bool _)
theorem er_notInI {x : Int} {xs : List Int} (ha : ER K ta σ H x) (hb : ER K tb σ H xs) : ER K (tOp (rIn K true) ta tb) σ H (!decide (x ∈ xs)) := fun H1 e Q q => ha.evI H1 e _ fun H2 e2 => hb H2 (e.trans e2) _ fun w H3 e3 r => by
  obtain ⟨p, vs, rfl, s, r⟩ := Rep.list r
  obtain rfl := Reps.ints r
  refine ⟨p, _, rfl, .inl s, rfl, flat_ints xs, ?_⟩
  show Q (.bl (!inV _ _)) H3
  rw [inV_ints]
  exact q _ H3 (e2.trans e3) (rep_bool _)
/-! ### list(range(n)) -/
theorem el_listRg {n : Int} (h : ER K te σ H n) (h0 : n ≤ 100000) (h1 : -100000 ≤ n) : EL K (tLstRg (tRg1 te)) σ H ((List.range n.toNat).map fun (k : Nat) => (k : Int)) := fun H1 e Q q =>
  h.evI H1 e _ fun H2 e2 => ⟨n, rfl, ⟨by omega, by omega, by omega, by omega, by omega⟩, fun p hp => q p _ (fresh_back e2 hp) (e2.trans (Evl.Ex.new hp)) ⟨_, upd_same, by
    rw [cut_updn hp]
    have e : rgV 0 n = ((List.range n.toNat).map fun (k : Nat) => (k : Int)).map V.int := by
      unfold rgV
      rw [List.map_map, Int.sub_zero]
      exact List.map_congr_left fun k _ => by
        show V.int (0 + (k : Int)) = V.int (k : Int)
        rw [Int.zero_add]
    rw [e]
    exact Reps.int_map _⟩⟩
/-! ### a, b = t -/
theorem g_pair {t : Tp Int} {v : V} {a b : Int} {m n : Nat} {Q : L2.St → Hp → Prop} (r : Rep K H v t) (ht : (show List Int from t) = [a, b]) (q : Q ((σ.set m (some (.int a))).set n (some (.int b))) H) : gTup K 2 (gCons (gName m) (gCons (gName n) gNil)) v σ H Q := by
  obtain ⟨p, vs, rfl, s, r⟩ := Rep.tup r
  obtain rfl := Reps.ints r
  have e : List.map V.int (show List Int from t) = [.int a, .int b] := by rw [ht]; rfl
  exact ⟨p, _, rfl, s, by show (List.map V.int (show List Int from t)).length = 2; rw [e]; rfl, _, _, e, _, _, rfl, rfl, q⟩
/-! ### for i, x in enumerate(t), t a tuple -/
theorem s_enumT {xs : Tp α} {m n : Nat} {tb : TS} {D : Ends} (h : ER K te σ H xs) (k : ∀ a vs H1, Ex H H1 → SqT K H1 a vs → Reps K H1 vs (α := α) xs → ∃ (G : Hp) (J : Nat → L2.St → Hp → Prop), Ex G H1 ∧ SqT K G a vs ∧ Reps K G vs (α := α) xs ∧ J 0 σ H1 ∧
      (∀ i x w σ' H' H'', (show List α from xs)[i]? = some x → Ex G H' → Ex H' H'' → Rep K G w x → J i σ' H' → tb { D with nx := fun σ3 H3 => Ex G H3 ∧ J (i + 1) σ3 H3, ct := fun σ3 H3 => Ex G H3 ∧ J (i + 1) σ3 H3, bk := D.nx } ((σ'.set m (some (.int (i : Nat)))).set n (some w)) H'') ∧
      (∀ σ' H', Ex G H' → J (List.length xs) σ' H' → D.nx σ' H')) : tFor (iEnumT K (tCons te tNil)) (gTup K 2 (gCons (gName m) (gCons (gName n) gNil))) tb D σ H := h H (Ex.refl H) _ fun v H1 e1 r => by
  obtain ⟨a, vs, rfl, s, r⟩ := Rep.tup r
  obtain ⟨G, J, eG, sG, rG, j0, js, jd⟩ := k a vs H1 e1 s r
  have hl := rG.len
  refine ⟨a, vs, rfl, s, fun i k' σ' H' => k' = List.length xs - i ∧ i ≤ List.length xs ∧ Ex G H' ∧ J i σ' H', ⟨_, rfl, Nat.zero_le _, eG, j0⟩, ?_⟩
  rintro i k' σ' H' ⟨rfl, hi, eH, j⟩
  have q := Evl.ex_t eH sG
  by_cases hlt : i < List.length xs
  · refine .inr ⟨⟨vs, vs[i]'(by omega), q, by simp [hl, hlt]⟩, fun σ3 H3 => Ex G H3 ∧ J (i + 1) σ3 H3, fun σ3 H3 z => ⟨_, by omega, rfl, hlt, z.1, z.2⟩, ?_⟩
    rintro y H2 ⟨T, x, rfl, hT, rfl, hx⟩
    obtain ⟨z, hz, rz⟩ := rG.got (hx vs q)
    have eT : Ex H' (upd H' T (.tup [.int (i : Nat), x])) := Evl.Ex.new hT
    exact ⟨T, _, rfl, SqT.of upd_same, rfl, _, _, rfl, _, _, rfl, rfl, js i z x σ' H' _ hz eH eT rz j⟩
  · have e : i = List.length xs := by omega
    subst e
    exact .inl ⟨⟨vs, q, by omega⟩, jd σ' H' eH j⟩
theorem q_enumT {xs : Tp α} {m n : Nat} {tb u : TS} {D : Ends} (h : ER K te σ H xs) (k : ∀ a vs H1, Ex H H1 → SqT K H1 a vs → Reps K H1 vs (α := α) xs → ∃ (G : Hp) (J : Nat → L2.St → Hp → Prop), Ex G H1 ∧ SqT K G a vs ∧ Reps K G vs (α := α) xs ∧ J 0 σ H1 ∧
      (∀ i x w σ' H' H'', (show List α from xs)[i]? = some x → Ex G H' → Ex H' H'' → Rep K G w x → J i σ' H' → tb { D with nx := fun σ3 H3 => Ex G H3 ∧ J (i + 1) σ3 H3, ct := fun σ3 H3 => Ex G H3 ∧ J (i + 1) σ3 H3, bk := u D } ((σ'.set m (some (.int (i : Nat)))).set n (some w)) H'') ∧
      (∀ σ' H', Ex G H' → J (List.length xs) σ' H' → u D σ' H')) : tSeq (tFor (iEnumT K (tCons te tNil)) (gTup K 2 (gCons (gName m) (gCons (gName n) gNil))) tb) u D σ H := s_enumT (D := { D with nx := u D }) h k
theorem s_enumTV {xs : Tp α} {m n c : Nat} {v : V} {tb : TS} {D : Ends} (hσ : σ[c]? = some (some v)) (r : Rep K G v xs) (e : Ex G H) (J : Nat → L2.St → Hp → Prop) (j0 : J 0 σ H)
    (js : ∀ i x w σ' H' H'', (show List α from xs)[i]? = some x → Ex G H' → Ex H' H'' → Rep K G w x → J i σ' H' → tb { D with nx := fun σ3 H3 => Ex G H3 ∧ J (i + 1) σ3 H3, ct := fun σ3 H3 => Ex G H3 ∧ J (i + 1) σ3 H3, bk := D.nx } ((σ'.set m (some (.int (i : Nat)))).set n (some w)) H'')
    (jd : ∀ σ' H', Ex G H' → J (List.length xs) σ' H' → D.nx σ' H') : tFor (iEnumT K (tCons (tVar c) tNil)) (gTup K 2 (gCons (gName m) (gCons (gName n) gNil))) tb D σ H := by
  obtain ⟨a, vs, rfl, s, rG⟩ := Rep.tup r
  have hl := rG.len
  refine ⟨_, hσ, a, vs, rfl, Evl.ex_t e s, fun i k' σ' H' => k' = List.length xs - i ∧ i ≤ List.length xs ∧ Ex G H' ∧ J i σ' H', ⟨_, rfl, Nat.zero_le _, e, j0⟩, ?_⟩
  rintro i k' σ' H' ⟨rfl, hi, eH, j⟩
  have q := Evl.ex_t eH s
  by_cases hlt : i < List.length xs
  · refine .inr ⟨⟨vs, vs[i]'(by omega), q, by simp [hl, hlt]⟩, fun σ3 H3 => Ex G H3 ∧ J (i + 1) σ3 H3, fun σ3 H3 z => ⟨_, by omega, rfl, hlt, z.1, z.2⟩, ?_⟩
    rintro y H2 ⟨T, x, rfl, hT, rfl, hx⟩
    obtain ⟨z, hz, rz⟩ := rG.got (hx vs q)
    have eT : Ex H' (upd H' T (.tup [.int (i : Nat), x])) := Evl.Ex.new hT
    exact ⟨T, _, rfl, SqT.of upd_same, rfl, _, _, rfl, _, _, rfl, rfl, js i z x σ' H' _ hz eH eT rz j⟩
  · have e : i = List.length xs := by omega
    subst e
    exact .inl ⟨⟨vs, q, by omega⟩, jd σ' H' eH j⟩
theorem q_enumTV {xs : Tp α} {m n c : Nat} {v : V} {tb u : TS} {D : Ends} (hσ : σ[c]? = some (some v)) (r : Rep K G v xs) (e : Ex G H) (J : Nat → L2.St → Hp → Prop) (j0 : J 0 σ H)
    (js : ∀ i x w σ' H' H'', (show List α from xs)[i]? = some x → Ex G H' → Ex H' H'' → Rep K G w x → J i σ' H' → tb { D with nx := fun σ3 H3 => Ex G H3 ∧ J (i + 1) σ3 H3, ct := fun σ3 H3 => Ex G H3 ∧ J (i + 1) σ3 H3, bk := u D } ((σ'.set m (some (.int (i : Nat)))).set n (some w)) H'')
    (jd : ∀ σ' H', Ex G H' → J (List.length xs) σ' H' → u D σ' H') : tSeq (tFor (iEnumT K (tCons (tVar c) tNil)) (gTup K 2 (gCons (gName m) (gCons (gName n) gNil))) tb) u D σ H := s_enumTV (D := { D with nx := u D }) hσ r e J j0 js jd
theorem er_neB {x y : Bool} (ha : ER K ta σ H x) (hb : ER K tb σ H y) : ER K (tOp rNe ta tb) σ H (!decide (x = y)) := fun H1 e Q q =>
  ha.evB H1 e _ fun H2 e2 => hb.evB H2 (e.trans e2) _ fun H3 e3 => ⟨rfl, by
    have : decide (V.bl x = V.bl y) = decide (x = y) := by simp
    rw [this]; exact q _ H3 (e2.trans e3) (rep_bool _)⟩
theorem cut_take {α : Type} {xs : List α} {k : Nat} (h : k ≤ xs.length) : cutD xs none (some (k : Int)) = xs.take k := by
  unfold cutD
  rw [HT.sIx_none, HT.sIx_nat, List.drop_zero, Nat.sub_zero]
  congr 1
  omega
theorem cut_drop {α : Type} {xs : List α} {k : Nat} (h : k ≤ xs.length) : cutD xs (some (k : Int)) none = xs.drop k := by
  unfold cutD
  rw [HT.sIx_none, HT.sIx_nat, Nat.min_eq_left h]
  exact List.take_of_length_le (by rw [List.length_drop]; omega)
/-- a for over a new list -/
theorem s_forL {xs : List α} {g : TG} {tb : TS} {D : Ends} (h : EL K te σ H xs) (k : ∀ p H1, H p = none → Ex H H1 → Own K H1 p xs → ∃ (G : Hp) (J : Nat → L2.St → Hp → Prop), Ex G H1 ∧ Own K G p xs ∧ J 0 σ H1 ∧
      (∀ i x v σ' H', xs[i]? = some x → Ex G H' → Rep K G v x → J i σ' H' → g v σ' H' fun σ2 H2 => tb { D with nx := fun σ3 H3 => Ex G H3 ∧ J (i + 1) σ3 H3, ct := fun σ3 H3 => Ex G H3 ∧ J (i + 1) σ3 H3, bk := D.nx } σ2 H2) ∧
      (∀ σ' H', Ex G H' → J xs.length σ' H' → D.nx σ' H')) : tFor (iList K te) g tb D σ H := h H (Ex.refl H) _ fun p H1 hp e1 o => by
  obtain ⟨G, J, eG, oG, j0, js, jd⟩ := k p H1 hp e1 o
  obtain ⟨vs, h1, r1⟩ := oG.ex
  have sG : SqL K G p vs := SqL.of h1
  have rG : Reps K G vs xs := r1.mono cut_ex
  refine ⟨p, rfl, ⟨vs, Evl.ex_l eG sG⟩, for_list (K := K) (a := p) (xs := vs) (fun i σ' H' => Ex G H' ∧ J i σ' H') ⟨eG, j0⟩ (fun i σ' H' _ z => Evl.ex_l z.1 sG) (fun i v σ' H' hi z => ?_) (fun σ' H' z => ?_)⟩
  · obtain ⟨x, hx, rx⟩ := rG.got hi
    exact js i x v σ' H' hx z.1 rx z.2
  · rw [rG.len] at z
    exact jd σ' H' z.1 z.2
theorem q_forL {xs : List α} {g : TG} {tb u : TS} {D : Ends} (h : EL K te σ H xs) (k : ∀ p H1, H p = none → Ex H H1 → Own K H1 p xs → ∃ (G : Hp) (J : Nat → L2.St → Hp → Prop), Ex G H1 ∧ Own K G p xs ∧ J 0 σ H1 ∧
      (∀ i x v σ' H', xs[i]? = some x → Ex G H' → Rep K G v x → J i σ' H' → g v σ' H' fun σ2 H2 => tb { D with nx := fun σ3 H3 => Ex G H3 ∧ J (i + 1) σ3 H3, ct := fun σ3 H3 => Ex G H3 ∧ J (i + 1) σ3 H3, bk := u D } σ2 H2) ∧
      (∀ σ' H', Ex G H' → J xs.length σ' H' → u D σ' H')) : tSeq (tFor (iList K te) g tb) u D σ H := s_forL (D := { D with nx := u D }) h k
/-- for i, TARGET in enumerate(xs), xs a name -/
theorem s_enumGV {xs : List α} {m c : Nat} {v : V} {g : TG} {tb : TS} {D : Ends} (hσ : σ[c]? = some (some v)) (r : Rep K G v xs) (e : Ex G H) (J : Nat → L2.St → Hp → Prop) (j0 : J 0 σ H)
    (js : ∀ i x w σ' H' H'', xs[i]? = some x → Ex G H' → Ex H' H'' → Rep K G w x → J i σ' H' → g w (σ'.set m (some (.int (i : Nat)))) H'' fun σ2 H2 => ([] : List V) = [] ∧ tb { D with nx := fun σ3 H3 => Ex G H3 ∧ J (i + 1) σ3 H3, ct := fun σ3 H3 => Ex G H3 ∧ J (i + 1) σ3 H3, bk := D.nx } σ2 H2)
    (jd : ∀ σ' H', Ex G H' → J xs.length σ' H' → D.nx σ' H') : tFor (iEnum K (tCons (tVar c) tNil)) (gTup K 2 (gCons (gName m) (gCons g gNil))) tb D σ H := by
  obtain ⟨a, vs, rfl, s, rG⟩ := Rep.list r
  have hl := rG.len
  refine ⟨_, hσ, a, vs, rfl, Evl.ex_l e s, fun i k' σ' H' => k' = xs.length - i ∧ i ≤ xs.length ∧ Ex G H' ∧ J i σ' H', ⟨_, rfl, Nat.zero_le _, e, j0⟩, ?_⟩
  rintro i k' σ' H' ⟨rfl, hi, eH, j⟩
  have q := Evl.ex_l eH s
  by_cases hlt : i < xs.length
  · refine .inr ⟨⟨vs, vs[i]'(by omega), q, by simp [hl, hlt]⟩, fun σ3 H3 => Ex G H3 ∧ J (i + 1) σ3 H3, fun σ3 H3 z => ⟨_, by omega, rfl, hlt, z.1, z.2⟩, ?_⟩
    rintro y H2 ⟨T, x, rfl, hT, rfl, hx⟩
    obtain ⟨z, hz, rz⟩ := rG.got (hx vs q)
    have eT : Ex H' (upd H' T (.tup [.int (i : Nat), x])) := Evl.Ex.new hT
    exact ⟨T, _, rfl, SqT.of upd_same, rfl, _, _, rfl, _, _, rfl, js i z x σ' H' _ hz eH eT rz j⟩
  · have e : i = xs.length := by omega
    subst e
    exact .inl ⟨⟨vs, q, by omega⟩, jd σ' H' eH j⟩
theorem q_enumGV {xs : List α} {m c : Nat} {v : V} {g : TG} {tb u : TS} {D : Ends} (hσ : σ[c]? = some (some v)) (r : Rep K G v xs) (e : Ex G H) (J : Nat → L2.St → Hp → Prop) (j0 : J 0 σ H)
    (js : ∀ i x w σ' H' H'', xs[i]? = some x → Ex G H' → Ex H' H'' → Rep K G w x → J i σ' H' → g w (σ'.set m (some (.int (i : Nat)))) H'' fun σ2 H2 => ([] : List V) = [] ∧ tb { D with nx := fun σ3 H3 => Ex G H3 ∧ J (i + 1) σ3 H3, ct := fun σ3 H3 => Ex G H3 ∧ J (i + 1) σ3 H3, bk := u D } σ2 H2)
    (jd : ∀ σ' H', Ex G H' → J xs.length σ' H' → u D σ' H') : tSeq (tFor (iEnum K (tCons (tVar c) tNil)) (gTup K 2 (gCons (gName m) (gCons g gNil))) tb) u D σ H := s_enumGV (D := { D with nx := u D }) hσ r e J j0 js jd
end
end Z
set_option Elab.async false
set_option linter.all false
set_option maxRecDepth 100000
set_option maxHeartbeats 2000000
set_option autoImplicit false
namespace Z
open PySem L2
open Evl (Ex)
open Dat
/-! ### sorted(set(xs)) -/
def ddStep {α : Type} [DecidableEq α] (acc : List α) (x : α) : List α := if x ∈ acc then acc else acc ++ [x]
/-- each item once, in the order of its first time -/
def dd {α : Type} [DecidableEq α] (xs : List α) : List α := xs.foldl ddStep []
section
variable {α : Type} [DecidableEq α]
theorem dd_go (xs acc : List α) (f : α → Int) (h1 : acc.Nodup) (h2 : acc.Pairwise fun a b => f a ≤ f b) (h3 : xs.Pairwise fun a b => f a ≤ f b) (h4 : ∀ a b, a ∈ acc → b ∈ xs → f a ≤ f b) :
    (xs.foldl ddStep acc).Nodup ∧ (xs.foldl ddStep acc).Pairwise (fun a b => f a ≤ f b) ∧ ∀ x, x ∈ xs.foldl ddStep acc ↔ x ∈ acc ∨ x ∈ xs := by
  induction xs generalizing acc with
  | nil => exact ⟨h1, h2, fun x => by simp⟩
  | cons y ys ih =>
    rw [List.foldl_cons]
    have h3' := (List.pairwise_cons.mp h3)
    by_cases hy : y ∈ acc
    · have e : ddStep acc y = acc := if_pos hy
      rw [e]
      obtain ⟨a1, a2, a3⟩ := ih acc h1 h2 h3'.2 fun a b ha hb => h4 a b ha (List.mem_cons_of_mem _ hb)
      refine ⟨a1, a2, fun x => (a3 x).trans ?_⟩
      constructor
      · rintro (h | h)
        · exact .inl h
        · exact .inr (List.mem_cons_of_mem _ h)
      · rintro (h | h)
        · exact .inl h
        · rcases List.mem_cons.mp h with rfl | h
          · exact .inl hy
          · exact .inr h
    · have e : ddStep acc y = acc ++ [y] := if_neg hy
      rw [e]
      obtain ⟨a1, a2, a3⟩ := ih (acc ++ [y]) (List.nodup_append.mpr ⟨h1, by simp, fun a ha b hb => by
          have := List.mem_singleton.mp hb
          subst this
          intro z
          exact hy (z ▸ ha)⟩) (List.pairwise_append.mpr ⟨h2, by simp, fun a ha b hb => by
          have := List.mem_singleton.mp hb
          subst this
          exact h4 a b ha (List.mem_cons_self ..)⟩) h3'.2 fun a b ha hb => by
        rcases List.mem_append.mp ha with ha | ha
        · exact h4 a b ha (List.mem_cons_of_mem _ hb)
        · have := List.mem_singleton.mp ha
          subst this
          exact h3'.1 b hb
      refine ⟨a1, a2, fun x => (a3 x).trans ?_⟩
      rw [List.mem_append, List.mem_singleton, List.mem_cons, or_assoc]
theorem dd_all (xs : List α) (f : α → Int) (h : xs.Pairwise fun a b => f a ≤ f b) : (dd xs).Nodup ∧ (dd xs).Pairwise (fun a b => f a ≤ f b) ∧ ∀ x, x ∈ dd xs ↔ x ∈ xs := by
  obtain ⟨a1, a2, a3⟩ := dd_go xs [] f (by simp) (by simp) h (fun a b ha => by cases ha)
  exact ⟨a1, a2, fun x => (a3 x).trans (by simp)⟩
end
def sset (B : Int) (xs : List (Tp Int)) : List (Tp Int) := dd (srtK (codeT B) xs)
theorem dd_len {α : Type} [DecidableEq α] (xs acc : List α) : (xs.foldl ddStep acc).length ≤ acc.length + xs.length := by
  induction xs generalizing acc with
  | nil => exact Nat.le_refl _
  | cons y ys ih =>
    have h := ih (ddStep acc y)
    have h2 : (ddStep acc y).length ≤ acc.length + 1 := by
      unfold ddStep
      split
      · exact Nat.le_succ _
      · rw [List.length_append]
        exact Nat.le_refl _
    rw [List.foldl_cons, List.length_cons]
    omega
theorem sset_len {B : Int} {xs : List (Tp Int)} : (sset B xs).length ≤ xs.length := by
  have h := dd_len (srtK (codeT B) xs) []
  rw [srtK_len] at h
  exact Nat.le_trans h (by simp)
theorem sset_mem {B : Int} {xs : List (Tp Int)} {t : Tp Int} : t ∈ sset B xs ↔ t ∈ xs := ((dd_all _ (codeT B) srtK_pw).2.2 t).trans srtK_mem
section
variable {K : PySem.W.Frag} {P : Program} {w : World} {σ : L2.St} {G H H' : Hp} {te : TE}
theorem reps_keys : ∀ {vs : List V} {xs : List (Tp Int)}, Reps K H vs xs → ∃ ks : List (Addr × List Int), vs = ks.map (fun p => V.ref p.1) ∧ xs = ks.map (fun p => (show Tp Int from p.2)) ∧ ∀ p ∈ ks, H p.1 = some (.tup (p.2.map V.int))
  | [], [], _ => ⟨[], rfl, rfl, fun p hp => by cases hp⟩
  | v :: vs, [], r => by cases Reps.len r
  | [], x :: xs, r => by cases Reps.len r
  | v :: vs, x :: xs, r => by
    obtain ⟨_, _, e, h1, h2⟩ := Reps.inv r
    cases e
    obtain ⟨ks, e1, e2, e3⟩ := reps_keys h2
    obtain ⟨t, vt, rfl, s, rt⟩ := Rep.tupP h1
    obtain rfl := Reps.ints rt
    refine ⟨(t, (show List Int from x)) :: ks, by rw [e1]; rfl, by rw [e2]; rfl, fun p hp => ?_⟩
    rcases List.mem_cons.mp hp with rfl | hp
    · exact s
    · exact e3 p hp
theorem keys_reps : ∀ {ks : List (Addr × List Int)}, (∀ p ∈ ks, H p.1 = some (.tup (p.2.map V.int))) → Reps K H (ks.map fun p => V.ref p.1) (ks.map fun p => (show Tp Int from p.2))
  | [], _ => reps_nil
  | p :: ks, h => Reps.cons (rep_tup (h p (List.mem_cons_self ..)) (Reps.int_map _)) (keys_reps fun q hq => h q (List.mem_cons_of_mem _ hq))
theorem el_sset {d : Nat} {B : Int} {xs : List (Tp Int)} (h : ER K te σ H xs) (hl : xs.length < 64) (hd : 1 ≤ d) (hr : Rows d B xs) : EL K (tCB (rSortedT K P w) (tCons (tCB (rSetOfT K P w) (tCons te tNil)) tNil)) σ H (sset B xs) := fun H1 e Q q => h H1 e _ fun v H2 e2 r => by
  obtain ⟨a, vs, rfl, s, r⟩ := Rep.list r
  obtain ⟨ks, rfl, rfl, hk⟩ := reps_keys r
  refine ⟨a, ks, rfl, s, fun p hp => SqT.of (hk p hp), by rw [List.length_map] at hl; exact hl, fun b L hb h1 h2 => ?_⟩
  have e3 : Ex H2 (upd H2 b (SetTO P w b L)) := Evl.Ex.new hb
  have hL : ∀ p ∈ L, (upd H2 b (SetTO P w b L)) p.1 = some (.tup (p.2.map V.int)) := fun p hp => e3 _ _ (hk p (h1 p hp))
  refine ⟨b, L, d, B, rfl, upd_same, fun p hp => SqT.of (hL p hp), hd, fun p hp => hr _ (List.mem_map.mpr ⟨p, h1 p hp, rfl⟩), fun L' p hp hn hc hs hpn => ?_⟩
  have e : L'.map (fun p => (show Tp Int from p.2)) = sset B (ks.map fun p => (show Tp Int from p.2)) := by
    have hm : ∀ t : Tp Int, t ∈ L'.map (fun p => (show Tp Int from p.2)) ↔ t ∈ ks.map (fun p => (show Tp Int from p.2)) := fun t => by
      constructor
      · intro ht
        obtain ⟨z, hz, rfl⟩ := List.mem_map.mp ht
        exact List.mem_map.mpr ⟨z, h1 z (hp.mem_iff.mp hz), rfl⟩
      · intro ht
        obtain ⟨z, hz, rfl⟩ := List.mem_map.mp ht
        obtain ⟨z', hz', e⟩ := List.mem_map.mp (h2 z hz)
        exact List.mem_map.mpr ⟨z', hp.mem_iff.mpr hz', e⟩
    obtain ⟨a1, a2, a3⟩ := dd_all (srtK (codeT B) (ks.map fun p => (show Tp Int from p.2))) (codeT B) srtK_pw
    refine srt_set (f := codeT B) (fun x y hx hy => hr.inj x y ((hm x).mp hx) ((hm y).mp hy)) ?_ a2 hn a1 fun t => (hm t).trans ((a3 t).trans srtK_mem).symm
    rw [List.pairwise_map]
    exact hs
  have e4 : Ex (upd H2 b (SetTO P w b L)) (upd (upd H2 b (SetTO P w b L)) p (.lst (L'.map fun q => V.ref q.1))) := Evl.Ex.new hpn
  refine q p _ (fresh_back (e2.trans e3) hpn) ((e2.trans e3).trans e4) ⟨_, upd_same, ?_⟩
  rw [cut_updn hpn, ← e]
  exact keys_reps fun z hz => hL z (hp.mem_iff.mp hz)
/-- data lean on no instance -/
theorem ins_ne {a r C dx : Addr} {fs : List (Str × V)} {u : HO} (h : Rd H a u) (hr : H r = some (.ins C dx fs)) (hu : ∀ C dx fs, u ≠ .ins C dx fs) : a ≠ r := fun z => by
  rcases h with h | ⟨o, h⟩
  · rw [z, hr] at h
    exact hu _ _ _ (Option.some.inj h).symm
  · rw [z, hr] at h
    cases h
theorem rd_cut {a r : Addr} {u : HO} (h : Rd H a u) (ne : a ≠ r) : Rd (cut H r) a u := by
  rcases h with h | ⟨o, h⟩
  · exact .inl (by rw [cut_ne ne]; exact h)
  · exact .inr ⟨o, by rw [cut_ne ne]; exact h⟩
theorem Tups.cutI {r C dx : Addr} {fs : List (Str × V)} (hr : H r = some (.ins C dx fs)) : Tups H (Z.cut H r) := fun a ys h => (cut_ne (fun z => by rw [z, hr] at h; cases h)).trans h
theorem rep_cutI {α : Type} [Dat α] [Flat α] {v : V} {xs : List α} {r C dx : Addr} {fs : List (Str × V)} (h : Rep K H v xs) (hr : H r = some (.ins C dx fs)) : Rep K (cut H r) v xs := by
  obtain ⟨a, vs, rfl, s, rs⟩ := Rep.list h
  refine rep_list ?_ (rs.imm (Tups.cutI hr))
  rcases s with s | s
  · exact .inl (rd_cut s (ins_ne s hr (fun _ _ _ z => by cases z)))
  · exact .inr s
/-! ### [f(a, b) for a, b in xs] -/
theorem wipe2 {m n : Nat} (hmn : m ≠ n) (v u : Option V) : wipe (((wipe σ [m, n]).set m v).set n u) [m, n] = wipe σ [m, n] := by
  have e : ∀ τ : L2.St, wipe τ [m, n] = (τ.set n none).set m none := fun τ => by first | rfl | (show (τ.set m none).set n none = _; exact List.set_comm none none hmn)
  rw [e, e]
  apply List.ext_getElem?
  intro i
  simp only [List.getElem?_set, List.length_set]
  split
  · rfl
  · split <;> rfl
theorem el_mapP {β : Type} [Dat β] [Flat β] {tl : TE} {xs : List (Tp Int)} {f : Tp Int → β} {m n : Nat} (hmn : m ≠ n) (h : ER K tl σ H xs) (two : ∀ t : Tp Int, t ∈ xs → List.length t = 2)
    (he : ∀ (t : Tp Int) H', t ∈ xs → Ex H H' → ER K te (((wipe σ [m, n]).set m (some (.int (List.getD (α := Int) t 0 0)))).set n (some (.int (List.getD (α := Int) t 1 0)))) H' (f t)) (hz : xs.length ≤ 100000) :
    EL K (tLc (iList K tl) (gTup K 2 (gCons (gName m) (gCons (gName n) gNil))) tYes te [m, n]) σ H (xs.map f) := fun H0 e0 Q q => h H0 e0 _ fun v H1 e1 r => by
  obtain ⟨a, vs, rfl, s, r⟩ := Rep.list r
  refine ⟨a, rfl, ⟨vs, s⟩, fun D hD => lc_list (K := K) (a := a) (xs := vs) (fun j H' => Ex H1 H' ∧ Own K H' D ((xs.take j).map f)) ⟨Evl.Ex.new hD, by simpa using Own.nil⟩ (fun j H' _ z => Evl.ex_l z.1 s) (fun j v H' hj z => ?_) (fun H' z => ?_)⟩
  · obtain ⟨x, hx, rx⟩ := r.got hj
    have hlt : j < xs.length := (List.getElem?_eq_some_iff.mp hx).1
    have hm := List.mem_of_getElem? hx
    have hx2 : (show List Int from x) = [List.getD (α := Int) x 0 0, List.getD (α := Int) x 1 0] := by
      have l2 := two x hm
      match x, l2 with
      | [a, b], _ => rfl
    refine g_pair (rx.mono z.1) hx2 ⟨wipe2 hmn _ _, he x H' hm (e0.trans (e1.trans z.1)) H' (Ex.refl H') _ fun w H2 e2 rw' => ?_⟩
    obtain ⟨acc, h1, r1⟩ := (z.2.mono e2).ex
    refine ⟨acc, h1, Evl.sz_lt (by rw [r1.len, List.length_map, List.length_take]; omega), ex_mut (z.1.trans e2) hD, acc ++ [w], upd_same, ?_⟩
    rw [cut_upd, show xs.take (j + 1) = xs.take j ++ [x] by rw [List.take_succ, hx]; rfl, List.map_append]
    exact r1.append (Reps.cons (rw'.imm (Tups.cut h1)) reps_nil)
  · have e : xs.take vs.length = xs := by rw [r.len, List.take_length]
    rw [e] at z
    exact q D H' (fresh_back e1 hD) (e1.trans z.1) z.2
end
end Z
set_option Elab.async false
set_option linter.all false
set_option autoImplicit false
namespace Z
open PySem L2
/-! the rules whose reading names the place's kit, with the kit told from outside: a block's place leans on its own names -/
section
variable {K : PySem.W.Frag} {X : Cx}
theorem k_ix_list (e : X.K = K) : IxR X (rIxL K) := e ▸ ix_list
theorem k_ix_tup (e : X.K = K) : IxR X (rIxT K) := e ▸ ix_tup
theorem k_sl_list (e : X.K = K) : SlR X (rSlL K) := e ▸ sl_list
theorem k_sl_tupA (e : X.K = K) : SlR X (rSlA K) := e ▸ sl_tupA
theorem k_op_in_seq (e : X.K = K) : OpR X (compareOp .In) (rIn K false) := e ▸ op_in_seq
theorem k_op_notIn_seq (e : X.K = K) : OpR X (compareOp .NotIn) (rIn K true) := e ▸ op_notIn_seq
theorem k_op_eqD (e : X.K = K) (hu : X.A.units + 64 < cLine) : OpR X (compareOp .Eq) (rEqD K) := e ▸ op_eqD hu
theorem k_op_neD (e : X.K = K) (hu : X.A.units + 64 < cLine) : OpR X (compareOp .NotEq) (rNeD K) := e ▸ op_neD hu
theorem k_op_catA (e : X.K = K) : OpR X (binaryOp .Add) (rCatA K) := e ▸ op_catA
theorem k_op_ltT (e : X.K = K) (hu : X.A.units < cLine) : OpR X (compareOp .Lt) (rLtT K) := e ▸ op_ltT hu
theorem k_call_len_seq (e : X.K = K) : CallR X (.builtin "len") fun xs H Q => ∃ p ys, xs = [.ref p] ∧ (SqL K H p ys ∨ SqT K H p ys) ∧ Q (.int ys.length) H := e ▸ call_len_seq
theorem k_call_list_of (e : X.K = K) : CallR X (.type "list") fun xs H Q => ∃ p ys, xs = [.ref p] ∧ (SqL K H p ys ∨ SqT K H p ys) ∧ ∀ l, H l = none → Q (.ref l) (upd H l (.lst ys)) := e ▸ call_list_of
theorem k_call_tuple_of (e : X.K = K) : CallR X (.type "tuple") fun xs H Q => ∃ p ys, xs = [.ref p] ∧ ((SqL K H p ys ∧ ∀ l, H l = none → Q (.ref l) (upd H l (.tup ys))) ∨ (SqT K H p ys ∧ Q (.ref p) H)) := e ▸ call_tuple_of
theorem k_call_isi (e : X.K = K) : CallR X (.builtin "isinstance") (rIsi K) := e ▸ call_isi
theorem k_mt_index (e : X.K = K) : MtR X "list.index" (rIndex K) := e ▸ mt_index
theorem k_pi_list {tg l : Expr} {tl : TE} (e : X.K = K) (h : PE X l tl) : PI X tg l (iList K tl) := e ▸ pi_list h
theorem k_pi_tup {tg l : Expr} {tl : TE} (e : X.K = K) (h : PE X l tl) : PI X tg l (iTup K tl) := e ▸ pi_tup h
theorem k_pi_enum {tg x : Expr} {ta : TA} (e : X.K = K) (h : PI X tg x (iEnum X.K ta)) : PI X tg x (iEnum K ta) := e ▸ h
theorem k_pi_zip {tg x : Expr} {ta : TA} (e : X.K = K) (h : PI X tg x (iZip X.K ta)) : PI X tg x (iZip K ta) := e ▸ h
theorem k_pe_fld {x : Expr} {ta : TE} {f : Str} (e : X.K = K) (h : PE X x (tFld X.K ta f)) : PE X x (tFld K ta f) := e ▸ h
theorem k_ps_fld {x : Stmt} {ta tv : TE} {f : Str} (e : X.K = K) (h : PS X x (sFld X.K ta tv f)) : PS X x (sFld K ta tv f) := e ▸ h
theorem k_pe_bm {x : Expr} {T : String} {r : V → List V → Hp → VK → Prop} {to : TE} {t : TA} (e : X.K = K) (h : PE X x (tBM X.K T r to t)) : PE X x (tBM K T r to t) := e ▸ h
theorem k_pe_bm0 {x : Expr} {T : String} {r : V → List V → Hp → VK → Prop} {to : TE} (e : X.K = K) (h : PE X x (tBM0 X.K T r to)) : PE X x (tBM0 K T r to) := e ▸ h
theorem k_pg_tup {x : Expr} {n : Nat} {t : TGs} (e : X.K = K) (h : PG X x (gTup X.K n t)) : PG X x (gTup K n t) := e ▸ h
theorem k_pe_revL {x : Expr} {te : TE} (e : X.K = K) (h : PE X x (tRevL X.K te)) : PE X x (tRevL K te) := e ▸ h
theorem k_pt_truth {x : Expr} {ta : TE} (e : X.K = K) (h : PT X x fun σ H Q => ta σ H fun v H' => ∃ k, TruV X.K v H' k ∧ Q k H') : PT X x fun σ H Q => ta σ H fun v H' => ∃ k, TruV K v H' k ∧ Q k H' := e ▸ h
theorem k_cr_all (e : X.K = K) (hc : X.calm = true) : CallR X (.builtin "all") (rAll K) := e ▸ cr_all hc
theorem k_cr_any (e : X.K = K) (hc : X.calm = true) : CallR X (.builtin "any") (rAny K) := e ▸ cr_any hc
theorem k_cr_sortedI (e : X.K = K) : CallR X (.builtin "sorted") (rSortedI K) := e ▸ cr_sortedI
theorem k_cr_sortedIT (e : X.K = K) : CallR X (.builtin "sorted") (rSortedIT K) := e ▸ cr_sortedIT
theorem k_cr_sortT {d : Nat} {B : Int} (e : X.K = K) (hd : 1 ≤ d) : CallR X (.builtin "sorted") (rSortU K d B) := e ▸ cr_sortT hd
theorem k_cr_sortedT {P : Program} {w : World} (e : X.K = K) (e1 : X.prog = P) (e2 : X.w = w) (hc : X.calm = true) : CallR X (.builtin "sorted") (rSortedT K P w) := e ▸ e1 ▸ e2 ▸ cr_sortedT hc
theorem k_cr_setOfT {P : Program} {w : World} (e : X.K = K) (e1 : X.prog = P) (e2 : X.w = w) (hc : X.calm = true) (hu : X.A.units + 64 < cLine) : CallR X (.type "set") (rSetOfT K P w) := e ▸ e1 ▸ e2 ▸ cr_setOfT hc hu
theorem k_op_inD (e : X.K = K) (hu : X.A.units + 65 < cLine) : OpR X (compareOp .In) (rInD K) := e ▸ op_inD hu
theorem k_op_notInD (e : X.K = K) (hu : X.A.units + 65 < cLine) : OpR X (compareOp .NotIn) (rNotInD K) := e ▸ op_notInD hu
theorem k_pi_enumT {tg x : Expr} {ta : TA} (e : X.K = K) (h : PI X tg x (iEnumT X.K ta)) : PI X tg x (iEnumT K ta) := e ▸ h
theorem k_cr_sum (e : X.K = K) (h : CallR X (.builtin "sum") (rSum X.K)) : CallR X (.builtin "sum") (rSum K) := e ▸ h
theorem u65 {k : Nat} {A : Around} (r : Room k A) : A.units + 65 < cLine := by have := r.un; omega
end
end Z
set_option Elab.async false
set_option linter.all false
set_option maxRecDepth 100000
set_option maxHeartbeats 4000000
set_option autoImplicit false
namespace Z
open PySem L2
/-- law(script): True -/
def spLaw (K : PySem.W.Frag) : Sp := fun vs H Q _ => ∃ (a : Addr) (ns : List Int), vs = [.ref a] ∧ SqL K H a (ns.map V.int) ∧ ns.length ≤ 63 ∧ ∀ H', Q (.bl true) H'
theorem walk {k : Nat} {l : PySem.W.OpenLaw} {q : Program} {loose : List Str} {XP : (Str → Option Value) → Heap → Prop} {YP : World → Heap → Prop} {d : DefRec} {K : Params → PySem.W.Frag} (hn : l.most = some 63) (hk : callerA.depth + 3 * k + 5 < recursionLimit) (hk2 : callerA.units + 16 * k + 200 < cLine) (hdf : d.params.defaults = []) (hY : ∀ (w : World) (h : Heap), YP w h → (K w.params).In h)
    (F : ∀ (w : World) (mg : Str → Option Value) (fa : Addr) (h : Heap), (K w.params).In h → h.Ns mainGlobals mg → mg d.name = some (.ref fa) →
      ∃ fd : FuncData, (∀ (s : Shared) (u : Value), BindsTo s fd ⟨[u], []⟩ [("script", u)]) ∧ ∀ base : Heap, (K w.params).In base → base.Ns mainGlobals mg → FnOk l.prog w (K w.params) mg base CX0 k fa fd ["script"] (spLaw (K w.params))) :
    PySem.W.WalkO q loose XP YP l.row.toRowW d [] (fun f vs => PySem.call f vs) :=
  L2.walk_of (n := 63) (k := k) (x := "script") (CX := fun _ => CX0) (sp := fun w => spLaw (K w.params)) hn (by decide) hdf ⟨rfl, hk, hk2⟩ hY F (fun _ _ a ns hl _ hS => ⟨a, ns, rfl, hS, hl, fun _ => rfl⟩) fun _ _ _ _ _ z => z
end Z
set_option Elab.async false
set_option linter.all false
set_option maxRecDepth 100000
set_option maxHeartbeats 4000000
set_option autoImplicit false
namespace Z
open PySem L2
theorem len1 {K : PySem.W.Frag} {α ε : Type} [Dat α] [Dat ε] {pre : α → Prop} {m : α → ε} {s1 : Str} : ∀ vs H Q E, sp1 K pre m vs H Q E → vs.length = [s1].length := fun vs H Q E h => by
  obtain ⟨v, x, rfl, _⟩ := h
  rfl
theorem len2 {K : PySem.W.Frag} {α β ε : Type} [Dat α] [Dat β] [Dat ε] {pre : α → β → Prop} {m : α → β → ε} {s1 s2 : Str} : ∀ vs H Q E, sp2 K pre m vs H Q E → vs.length = [s1, s2].length := fun vs H Q E h => by
  obtain ⟨v, u, x, y, rfl, _⟩ := h
  rfl
theorem len3 {K : PySem.W.Frag} {α β γ ε : Type} [Dat α] [Dat β] [Dat γ] [Dat ε] {pre : α → β → γ → Prop} {m : α → β → γ → ε} {s1 s2 s3 : Str} : ∀ vs H Q E, sp3 K pre m vs H Q E → vs.length = [s1, s2, s3].length := fun vs H Q E h => by
  obtain ⟨v, u, t, x, y, z, rfl, _⟩ := h
  rfl
theorem lel1 {K : PySem.W.Frag} {α ε : Type} [Dat α] [Dat ε] {pre : α → Prop} {m : α → List ε} {s1 : Str} : ∀ vs H Q E, sl1 K pre m vs H Q E → vs.length = [s1].length := fun vs H Q E h => by
  obtain ⟨v, x, rfl, _⟩ := h
  rfl
theorem lel2 {K : PySem.W.Frag} {α β ε : Type} [Dat α] [Dat β] [Dat ε] {pre : α → β → Prop} {m : α → β → List ε} {s1 s2 : Str} : ∀ vs H Q E, sl2 K pre m vs H Q E → vs.length = [s1, s2].length := fun vs H Q E h => by
  obtain ⟨v, u, x, y, rfl, _⟩ := h
  rfl
theorem lel3 {K : PySem.W.Frag} {α β γ ε : Type} [Dat α] [Dat β] [Dat γ] [Dat ε] {pre : α → β → γ → Prop} {m : α → β → γ → List ε} {s1 s2 s3 : Str} : ∀ vs H Q E, sl3 K pre m vs H Q E → vs.length = [s1, s2, s3].length := fun vs H Q E h => by
  obtain ⟨v, u, t, x, y, z, rfl, _⟩ := h
  rfl
end Z
namespace Z
open PySem L2
/-! ### the mirror -/
def cell (ns : List Int) (k : Int) : Int := if k < ns.length then ns.getD k.toNat 0 else 0
def big : Int → List Int → List Int
  | _, [] => []
  | r, b :: bs => r % b :: big (r / b) bs
def small : Int → List Int → List Int
  | _, [] => []
  | s, b :: bs => ((s * 48271 + 12345) % 2147483647) / 64 % b :: small ((s * 48271 + 12345) % 2147483647) bs
def drw (c : Int) (bs : List Int) : List Int := if 10 ^ 18 ≤ c then big (c - 10 ^ 18) bs else small (c % 2147483647) bs
def bigR (r : Int) (bs : List Int) : Int := bs.foldl (fun r b => r / b) r
def smallR (s : Int) (bs : List Int) : Int := bs.foldl (fun s _ => (s * 48271 + 12345) % 2147483647) s
theorem big_snoc (r b : Int) (bs : List Int) : big r (bs ++ [b]) = big r bs ++ [bigR r bs % b] := by
  induction bs generalizing r with
  | nil => rfl
  | cons c bs ih => simp [big, ih, bigR]
theorem small_snoc (s b : Int) (bs : List Int) : small s (bs ++ [b]) = small s bs ++ [((smallR s bs * 48271 + 12345) % 2147483647) / 64 % b] := by
  induction bs generalizing s with
  | nil => rfl
  | cons c bs ih => simp [small, ih, smallR]
theorem small_len (s : Int) (bs : List Int) : (small s bs).length = bs.length := by
  induction bs generalizing s with
  | nil => rfl
  | cons c bs ih => simp [small, ih]
theorem big_len (s : Int) (bs : List Int) : (big s bs).length = bs.length := by
  induction bs generalizing s with
  | nil => rfl
  | cons c bs ih => simp [big, ih]
theorem take_succ_get {α : Type} {xs : List α} {i : Nat} {x : α} (h : xs[i]? = some x) : xs.take (i + 1) = xs.take i ++ [x] := by rw [List.take_succ, h]; rfl
theorem smallR_lt {s : Int} (h0 : 0 ≤ s) (h1 : s < 2147483647) (bs : List Int) : 0 ≤ smallR s bs ∧ smallR s bs < 2147483647 := by
  unfold smallR
  induction bs generalizing s with
  | nil => exact ⟨h0, h1⟩
  | cons b bs ih => exact ih (Int.emod_nonneg _ (by decide)) (Int.emod_lt_of_pos _ (by decide))
theorem draw_len (c : Int) (bs : List Int) : (drw c bs).length = bs.length := by
  unfold drw
  split
  · exact big_len _ _
  · exact small_len _ _
theorem big_at {bs : List Int} {r : Int} {i : Nat} {b : Int} (h : bs[i]? = some b) (hb : 0 < b) : ∃ x, (big r bs)[i]? = some x ∧ 0 ≤ x ∧ x < b := by
  induction bs generalizing r i with
  | nil => cases h
  | cons c cs ih =>
    cases i with
    | zero =>
      cases h
      exact ⟨_, rfl, Int.emod_nonneg _ (by omega), Int.emod_lt_of_pos _ hb⟩
    | succ i => exact ih h
theorem small_at {bs : List Int} {r : Int} {i : Nat} {b : Int} (h : bs[i]? = some b) (hb : 0 < b) : ∃ x, (small r bs)[i]? = some x ∧ 0 ≤ x ∧ x < b := by
  induction bs generalizing r i with
  | nil => cases h
  | cons c cs ih =>
    cases i with
    | zero =>
      cases h
      exact ⟨_, rfl, Int.emod_nonneg _ (by omega), Int.emod_lt_of_pos _ hb⟩
    | succ i => exact ih h
theorem draw_at {bs : List Int} {c : Int} {i : Nat} {b : Int} (h : bs[i]? = some b) (hb : 0 < b) : ∃ x, atI (drw c bs) (i : Int) = some x ∧ 0 ≤ x ∧ x < b := by
  have : ∃ x, (drw c bs)[i]? = some x ∧ 0 ≤ x ∧ x < b := by
    unfold drw
    split
    · exact big_at h hb
    · exact small_at h hb
  obtain ⟨x, h1, h2⟩ := this
  exact ⟨x, Z.atI_ofN h1, h2⟩
end Z
set_option Elab.async false
set_option linter.all false
set_option maxRecDepth 100000
set_option maxHeartbeats 4000000
/-! Z: sorted(..) of any number of tuples of d ints; t * n; t.count(k); sum(t). -/
namespace Z
open PySem PySem.Spec PyProof.Rows L2
/-! ### sorted(xs), xs tuples of d ints in [0, B) -/
section
variable {prog : Program} {w : World} {A : Around} {E : Value → Shared → Prop} {s : Shared}
theorem tups_rest {B : Int} {Q : Bool → Shared → Prop} : ∀ {xs ys : List Value} {ns ms : List Int}, IntsAre xs ns → IntsAre ys ms → ns.length = ms.length → TS.Bd B ns → TS.Bd B ms → ∀ i, 1 ≤ i → Q (decide (TS.code B ns < TS.code B ms)) s → PySem.W.KatLex prog w A true false Q (xs.zip ys) i s
  | _, _, _, _, .nil, .nil, _, _, _, i, _, h => PySem.W.kat_nil (by
      have e : decide (TS.code B [] < TS.code B []) = false := decide_eq_false (by omega)
      rw [e] at h
      exact h)
  | _, _, _, _, .nil, .cons _ _ _, hl, _, _, _, _, _ => by cases hl
  | _, _, _, _, .cons _ _ _, .nil, hl, _, _, _, _, _ => by cases hl
  | _, _, _, _, .cons n t r, .cons m u q, hl, bn, bm, i, hi, h => by
    have hl' := Nat.succ.inj hl
    refine PySem.W.kat_cons (SeqAt.EqAt.int_int n t m u prog w _ _ (PySem.W.kat_go (fun e1 => ?_) fun e1 => ?_))
    · have ex : n = m := by simpa using e1
      subst ex
      refine PySem.W.kat_yes (tups_rest r q hl' bn.tail bm.tail (i + 1) (by omega) ?_)
      have e : decide (TS.code B (n :: _) < TS.code B (n :: _)) = decide (TS.code B _ < TS.code B _) := decide_eq_decide.mpr (TS.code_same hl')
      rw [e] at h
      exact h
    · have ex : ¬ n = m := by simpa using e1
      have e0 : (true && i == 0) = false := by
        rw [Bool.true_and]
        exact beq_eq_false_iff_ne.mpr (by omega)
      refine PySem.W.kat_no ?_
      rw [e0]
      refine PySem.W.kat_one _ _ (PyProof.Rows.lt_int ?_)
      have e : decide (TS.code B (n :: _) < TS.code B (m :: _)) = decide (n < m) := decide_eq_decide.mpr ⟨fun z => by
        rcases Int.lt_trichotomy n m with c | c | c
        · exact c
        · exact absurd c ex
        · have := TS.code_lt hl'.symm bm.tail bn.tail c
          omega, fun z => TS.code_lt hl' bn.tail bm.tail z⟩
      rw [e] at h
      exact h
theorem tups_first {B : Int} {Q : Bool → Shared → Prop} {xs ys : List Value} {ns ms : List Int} (hx : IntsAre xs ns) (hy : IntsAre ys ms) (hl : ns.length = ms.length) (h1 : 1 ≤ ns.length) (bn : TS.Bd B ns) (bm : TS.Bd B ms) (h : Q (decide (TS.code B ns < TS.code B ms)) s) : PySem.W.KatLex prog w A true false Q (xs.zip ys) 0 s := by
  cases hx with
  | nil => exact absurd h1 (by simp)
  | cons n t r =>
    cases hy with
    | nil => cases hl
    | cons m u q =>
      have hl' := Nat.succ.inj hl
      refine PySem.W.kat_cons (SeqAt.EqAt.int_int n t m u prog w _ _ (PySem.W.kat_go (fun e1 => ?_) fun e1 => ?_))
      · have ex : n = m := by simpa using e1
        subst ex
        refine PySem.W.kat_yes (tups_rest r q hl' bn.tail bm.tail 1 (by omega) ?_)
        have e : decide (TS.code B (n :: _) < TS.code B (n :: _)) = decide (TS.code B _ < TS.code B _) := decide_eq_decide.mpr (TS.code_same hl')
        rw [e] at h
        exact h
      · have ex : ¬ n = m := by simpa using e1
        refine PySem.W.kat_no (oneLt_int ?_)
        have e : decide (TS.code B (n :: _) < TS.code B (m :: _)) = decide (n < m) := decide_eq_decide.mpr ⟨fun z => by
          rcases Int.lt_trichotomy n m with c | c | c
          · exact c
          · exact absurd c ex
          · have := TS.code_lt hl'.symm bm.tail bn.tail c
            omega, fun z => TS.code_lt hl' bn.tail bm.tail z⟩
        rw [e] at h
        exact h
/-- v: a tuple of d ints in [0, B), k v -/
def TupD (h : Heap) (d : Nat) (B : Int) (v : Value) (ns : List Int) : Prop := TS.TupInts h v ns ∧ ns.length = d ∧ TS.Bd B ns
theorem TupD.keeps {h h' : Heap} {d : Nat} {B : Int} {v : Value} {ns : List Int} (x : TupD h d B v ns) (k : ∀ b o, h.get? b = some o → o.cls = .type "tuple" → h'.get? b = some o) : TupD h' d B v ns := by
  obtain ⟨⟨t, its, e, ⟨o, ho, hc, r⟩, hi⟩, h2⟩ := x
  exact ⟨⟨t, its, e, ⟨o, k _ o ho hc, hc, r⟩, hi⟩, h2⟩
theorem swo_code {B : Int} {k : Value → List Int} : SrtO.Swo fun v u => decide (TS.code B (k v) < TS.code B (k u)) := ⟨fun x y h => by
    have a := of_decide_eq_true h
    exact decide_eq_false (by omega), fun x y z h1 h2 => by
    have a := of_decide_eq_false h1
    have b := of_decide_eq_false h2
    exact decide_eq_false (by omega)⟩
theorem tups_cmp {d : Nat} {B : Int} {vs : List Value} {k : Value → List Int} (hd : 1 ≤ d) (hv : ∀ v ∈ vs, TupD s.heap d B v (k v)) : SrtO.Cmp prog w A s (tuples' true) (fun p => p.1 ∈ vs) (SrtO.lt2 fun v u => decide (TS.code B (k v) < TS.code B (k u))) := by
  intro p q hm hm'
  obtain ⟨⟨t, its, e, ⟨o, ho, hc, n, hdat⟩, hi⟩, hl, hb⟩ := hv _ hm
  obtain ⟨⟨t', its', e', ⟨o', ho', hc', n', hdat'⟩, hi'⟩, hl', hb'⟩ := hv _ hm'
  show wpAny (model prog w) A (keyLt' (tuples' true) p.1 q.1) (fun r s' => s' = s ∧ r = decide (TS.code B (k p.1) < TS.code B (k q.1))) (fun _ _ => False) s
  rw [e, e']
  refine PySem.W.kat_lt ho hdat ho' hdat' ?_
  have hz : its.size = its'.size := by
    have a1 := hi.length
    have a2 := hi'.length
    rw [Array.length_toList] at a1 a2
    omega
  rw [show decide (its.size < its'.size) = false from decide_eq_false (by omega)]
  rw [e] at hi hb hl
  rw [e'] at hi' hb' hl'
  exact tups_first (Q := fun r s' => s' = s ∧ r = decide (TS.code B (k (.ref t)) < TS.code B (k (.ref t')))) hi hi' (by omega) (by omega) hb hb' ⟨rfl, rfl⟩
theorem firsts_tups {d : Nat} {B : Int} (hd : 1 ≤ d) {k : Value → List Int} : ∀ {vs : List Value}, (∀ v ∈ vs, TupD s.heap d B v (k v)) → ∃ fs, PySem.W.KatTups s.heap vs fs ∧ fs.length = vs.length ∧ ∀ f ∈ fs, ∃ x t, f = Value.int x t
  | [], _ => ⟨[], trivial, rfl, fun f hf => by cases hf⟩
  | v :: vs, h => by
    obtain ⟨fs, h1, h2, h3⟩ := firsts_tups hd fun u hu => h u (List.mem_cons_of_mem _ hu)
    obtain ⟨⟨t, its, e, ⟨o, ho, hc, n, hdat⟩, hi⟩, hl, hb⟩ := h v (List.mem_cons_self ..)
    generalize k v = ns at hi hl hb
    obtain ⟨itl⟩ := its
    simp only at hi
    cases hi with
    | nil => exact absurd hl (by simp; omega)
    | cons m u r => exact ⟨.int m u :: fs, ⟨⟨t, o, _, n, e, ho, hc, hdat, rfl⟩, h1⟩, by rw [List.length_cons, List.length_cons, h2], fun f hf => by
        rcases List.mem_cons.mp hf with rfl | hf
        · exact ⟨_, _, rfl⟩
        · exact h3 f hf⟩
theorem tups_sortable {d : Nat} {B : Int} {a : Addr} {vs : List Value} {k : Value → List Int} (hd : 1 ≤ d) (h0 : 0 < vs.length) (hv : ∀ v ∈ vs, TupD s.heap d B v (k v)) (ha : ∀ o, s.heap.get? a = some o → o.cls ≠ .type "tuple") : SrtO.SortableO prog w A s a vs fun v u => decide (TS.code B (k v) < TS.code B (k u)) := by
  intro h' keep
  have hv' : ∀ v ∈ vs, TupD h' d B v (k v) := fun v hm => (hv v hm).keeps fun b o e c => keep b o (fun z => by subst z; exact ha o e c) e
  obtain ⟨fs, h1, h2, h3⟩ := firsts_tups (s := { s with heap := h' }) hd hv'
  refine ⟨tuples' true, fun Q E hq => ?_, tups_cmp (s := { s with heap := h' }) hd hv'⟩
  refine PySem.W.kat_kind (T := .type "int") h1 (by omega) (fun f hm => ?_) (by rfl) ?_
  · obtain ⟨x, t, rfl⟩ := h3 f hm
    exact PySem.W.Looks.now
  · have e : (Value.type "int" != Value.type "tuple") = true := by first | decide +kernel | rfl | decide
    rw [e]
    exact hq
end
/-- sorted(xs), xs a list of tuples of d ints in [0, B) -/
def rSortV (K : PySem.W.Frag) (d : Nat) (B : Int) : List V → Hp → VK → Prop := fun vs H Q => ∃ (a : Addr) (xs : List V), vs = [V.ref a] ∧ SqL K H a xs ∧ (∀ x ∈ xs, ∃ ns, TupI K H x ns ∧ ns.length = d ∧ TS.Bd B ns) ∧
  ∀ (ys : List V) (p : Addr), ys.Perm xs → ys.Pairwise (fun x y => ∀ n m, TupI K H x n → TupI K H y m → TS.code B n ≤ TS.code B m) → H p = none → Q (.ref p) (upd H p (.lst ys))
theorem cr_sortV {X : Cx} {d : Nat} {B : Int} (hd : 1 ≤ d) : CallR X (.builtin "sorted") (rSortV X.K d B) := by
  intro pins s σ H vs us Q I r h
  obtain ⟨a, xs, rfl, hs, hx, q⟩ := h
  obtain ⟨its, rv, hl, hz⟩ := I.list hs
  rw [Vals.ref1 r]
  obtain ⟨e1, e2⟩ := bkV_refs rv fun x m => by
    obtain ⟨ns, ⟨t, e, _⟩, _⟩ := hx x m
    exact ⟨t, e⟩
  have hall : ∀ v ∈ its, TupD s.heap d B v (TS.intsOf s.heap v) := fun v hv => by
    obtain ⟨t, rfl⟩ := e2 v hv
    have hm : V.ref t ∈ xs := by
      rw [e1]
      exact List.mem_map.mpr ⟨_, hv, rfl⟩
    obtain ⟨ns, ⟨t', e, ht⟩, hn, hb⟩ := hx _ hm
    cases e
    have hr := tupI_raw I ht
    rw [hr.ints]
    exact ⟨hr, hn, hb⟩
  refine SrtO.sorted_ord (swo_code (B := B) (k := TS.intsOf s.heap)) hl.isList (by rw [← rv.length]; exact hz) (fun h2 h₁ a' ha' kk => ?_) fun out h1 h2 => ?_
  · refine tups_sortable (s := { s with heap := h₁ }) hd (by omega) (fun v hm => (hall v hm).keeps fun b o e _ => (kk b o e).2) fun o e => ?_
    have e' : some o = some (seqObj "list" its.toArray 0) := e.symm.trans ha'
    cases e'
    intro c
    exact absurd (Value.type.inj c) (by decide)
  · obtain ⟨ep, he'⟩ := PyProof.Rows.sortedAll_at s.heap its out.toArray
    have h3 : ∀ u ∈ out, ∃ a, u = Value.ref a := fun u hu => e2 u (h2.perm.mem_iff.mp hu)
    have hp : (out.map bkV).Perm xs := by
      rw [e1]
      exact h2.perm.map bkV
    have hlen : (out.map bkV).length ≤ sizeLine := by
      rw [hp.length_eq]
      exact hz
    refine ⟨.ref _, upd H (s.heap.objs.size + 1) (.lst (out.map bkV)), I.laid (t' := s.toks) (fun _ _ => PyProof.Rows.sortedAll_old) (Nat.le_succ _) ⟨hlen, out, ep, bkV_vals h3, he'⟩, rfl, q _ _ hp ?_ (I.hok.fresh (Nat.le_succ _))⟩
    rw [List.pairwise_map]
    refine List.Pairwise.imp (fun {u v} huv n m hn hm => ?_) h1
    obtain ⟨t, et, ht⟩ := hn
    obtain ⟨t', et', ht'⟩ := hm
    have eu := bkV_ref et
    have ev := bkV_ref et'
    have i1 : TS.intsOf s.heap u = n := by
      rw [eu]
      exact (tupI_raw I ht).ints
    have i2 : TS.intsOf s.heap v = m := by
      rw [ev]
      exact (tupI_raw I ht').ints
    have := of_decide_eq_false huv
    rw [i1, i2] at this
    omega
theorem k_cr_sortV {K : PySem.W.Frag} {X : Cx} {d : Nat} {B : Int} (e : X.K = K) (hd : 1 ≤ d) : CallR X (.builtin "sorted") (rSortV K d B) := e ▸ cr_sortV hd
/-! ### t.count(k), sum(t) -/
def rCntT (K : PySem.W.Frag) : V → List V → Hp → VK → Prop := fun x xs H Q => ∃ (p : Addr) (ns : List Int) (k : Int), x = .ref p ∧ xs = [.int k] ∧ SqT K H p (ns.map V.int) ∧ Q (.int (ns.count k : Nat)) H
theorem mt_tcount {X : Cx} : MtR X "tuple.count" (rCntT X.K) := by
  intro pins s σ H x xs v us Q I rx rxs h
  obtain ⟨p, ns, k, rfl, rfl, hs, q⟩ := h
  cases rx
  obtain ⟨u, rfl, ru⟩ := rxs.one
  obtain ⟨t, rfl⟩ := ru
  obtain ⟨its, rv, ⟨⟨cls, dd, data, sl⟩, ho, hc, n, hd⟩, hlen⟩ := I.tuple hs
  simp only at hc hd
  subst hc hd
  have hi := ints_of_vals rv
  refine call_meets PySem.F.slot_tuple_count ⟨_, ho, rfl⟩ PySem.F.entry_tuple_count (PySem.F.args_tuple_count_2 _ _)
    (SeqAt.tuple_countAt p its.toArray n dd sl (.int k t) (eqk k)) ⟨ho, fun y hy => (eqk_gives hi y (by simpa using hy)).at _ _, ?_⟩
  have ec : its.toArray.toList.countP (eqk k) = ns.count k := eqk_count hi
  refine ⟨.int (ns.count k : Nat), H, I.tok _, ⟨s.toks, ?_⟩, q⟩
  show Value.int ((its.toArray.toList.countP (eqk k) : Nat) : Int) s.toks = Value.int ((ns.count k : Nat) : Int) s.toks
  rw [ec]
section
variable {prog : Program} {w : World} {A : Around} {E : Value → Shared → Prop} {s : Shared} {l : Addr} {xs : Array (Int × Tok)}
theorem sum_tup {Q : Value → Shared → Prop} (hh : A.handled = none) (hl : s.heap.IsTuple l (intItems xs))
    (h : ∀ h' tk t', (∀ b o, s.heap.get? b = some o → h'.get? b = some o) → Q (.int (preSum (numAt xs) xs.size) t') { s with heap := h', toks := tk }) :
    wpAny (model prog w) A (call (.builtin "sum") [.ref l]) Q E s := by
  have hlt : l < s.heap.objs.size := by obtain ⟨o, ho, _⟩ := hl; exact Heap.lt_size ho
  refine call_sum_walkG (wpAny_pyIter_tuple hl ?_)
  refine ⟨_, [s.heap.objs.size, l], [s.heap.objs.size], _, _, _, numAt xs, rfl, Walks.tuple (A := A.in1) hh _ l (Nat.ne_of_lt hlt) (intItems xs),
    ⟨⟨_, Heap.get?_push_size _ rfl, rfl, rfl⟩, ?_⟩, fun c hc => ?_, (fun _ _ => intItems_at), fun h' tk t' hk => ?_⟩
  · obtain ⟨o, ho, r⟩ := hl
    exact ⟨o, Heap.get?_push_of_some _ ho, r⟩
  · show c < (s.heap.push _).objs.size
    rw [Heap.size_push]
    rcases List.mem_cons.mp hc with rfl | hc
    · exact Nat.lt_succ_self _
    · rcases List.mem_cons.mp hc with rfl | hc
      · exact Nat.lt_succ_of_lt hlt
      · cases hc
  · have := h h' tk t' fun b o e => hk b o (fun hm => by
      rcases List.mem_cons.mp hm with e1 | hm
      · exact absurd (e1 ▸ Heap.lt_size e) (Nat.lt_irrefl _)
      · cases hm) (Heap.get?_push_of_some _ e)
    simpa [intItems] using this
end
def rSumT (K : PySem.W.Frag) : List V → Hp → VK → Prop := fun vs H Q => ∃ (a : Addr) (ns : List Int), vs = [V.ref a] ∧ SqT K H a (ns.map V.int) ∧ Q (.int ns.sum) H
theorem cr_sumT {X : Cx} (hc : X.calm = true) : CallR X (.builtin "sum") (rSumT X.K) := by
  intro pins s σ H vs us Q I r h
  obtain ⟨a, ns, rfl, hs, q⟩ := h
  obtain ⟨its, rv, hl, _⟩ := I.tuple hs
  rw [Vals.ref1 r]
  have hi := rv.ints
  obtain ⟨xs, e⟩ := hi.allInts.items
  have hn : numsOf (intItems xs).toList = ns := by rw [← e]; exact hi.numsOf
  rw [nums_intItems] at hn
  obtain ⟨o, ho, hcl, n, hd⟩ := hl
  rw [e] at hd
  refine sum_tup (I.ok.hd hc) (xs := xs) ⟨o, ho, hcl, n, hd⟩ fun h' tk t' hk => ⟨.int _, H, I.kept hk, ⟨_, rfl⟩, ?_⟩
  rw [preSum_eq, List.take_of_length_le (by simp), hn]
  exact q
theorem k_cr_sumT {K : PySem.W.Frag} {X : Cx} (e : X.K = K) (hc : X.calm = true) : CallR X (.builtin "sum") (rSumT K) := e ▸ cr_sumT hc
theorem k_mt_tcount {K : PySem.W.Frag} {X : Cx} (e : X.K = K) : MtR X "tuple.count" (rCntT K) := e ▸ mt_tcount
/-! ### t * n -/
theorem tuple_mul1 (l : Addr) (items : Array Value) (n : Nat) (dd : Option Addr) (sl : Array (Option Value)) (x : Int) (u : Tok) (c0 : (decide (x < -(2 ^ 63)) || decide (x ≥ 2 ^ 63)) = false) (c1 : (items.isEmpty || x == 1) = true) :
    Meets (Builtin.«tuple.__mul__» ⟨[.ref l, .int x u], []⟩) (fun _ R s => s.heap.get? l = some { cls := .type "tuple", dict := dd, data := .seq items n, slots := sl } ∧ R (.ok (.ret (Value.ref l))) s) :=
  .of_wp fun prog w A R s h => by
    obtain ⟨hp, g, d, tk, os⟩ := s
    obtain ⟨hl, h⟩ := h
    have f1 := AutoSeq1.idx_int
    wp_walk using wpAny_loadPart' hl
    repeat (first
      | (refine wpAny_ite_false (decide_eq_false (by rw [c0]; exact Bool.false_ne_true)) ?_; wp_walk using wpAny_loadPart' hl)
      | (refine wpAny_ite_true (decide_eq_true c1) ?_; wp_walk using wpAny_loadPart' hl))
    exact ⟨_, rfl, h⟩
theorem tuple_mul0 (l : Addr) (items : Array Value) (n : Nat) (dd : Option Addr) (sl : Array (Option Value)) (x : Int) (u : Tok) (c0 : (decide (x < -(2 ^ 63)) || decide (x ≥ 2 ^ 63)) = false) (c1 : (items.isEmpty || x == 1) = false) (c2 : (decide (x ≤ 0) || items.isEmpty) = true) :
    Meets (Builtin.«tuple.__mul__» ⟨[.ref l, .int x u], []⟩) (fun _ R s => s.heap.get? l = some { cls := .type "tuple", dict := dd, data := .seq items n, slots := sl } ∧
      R (.ok (.ret (Value.ref s.heap.objs.size))) { s with heap := s.heap.push { cls := Value.type "tuple", data := Data.seq #[] }, toks := s.toks }) :=
  .of_wp fun prog w A R s h => by
    obtain ⟨hp, g, d, tk, os⟩ := s
    obtain ⟨hl, h⟩ := h
    have f1 := AutoSeq1.idx_int
    wp_walk using wpAny_loadPart' hl
    repeat (first
      | (refine wpAny_ite_false (decide_eq_false (by rw [c0]; exact Bool.false_ne_true)) ?_; wp_walk using wpAny_loadPart' hl)
      | (refine wpAny_ite_false (decide_eq_false (by rw [c1]; exact Bool.false_ne_true)) ?_; wp_walk using wpAny_loadPart' hl)
      | (refine wpAny_ite_true (decide_eq_true c2) ?_; wp_walk using wpAny_loadPart' hl))
    exact ⟨_, rfl, h⟩
/-- t * n, t not empty -/
def rRepA (K : PySem.W.Frag) : R2 := fun x y H Q => ∃ l k xs, x = .ref l ∧ y = .int k ∧ SqT K H l xs ∧ xs ≠ [] ∧ -1000 ≤ k ∧ k ≤ 1000 ∧ xs.length ≤ 1000 ∧ (k = 1 → Q (.ref l) H) ∧ (k ≠ 1 → ∀ p, H p = none → Q (.ref p) (upd H p (.tup (List.replicate k.toNat xs).flatten)))
theorem op_repA {X : Cx} : OpR X (binaryOp .Mult) (rRepA X.K) := by
  intro pins s σ H x y v u Q I rx ry h
  obtain ⟨l, k, xs, rfl, rfl, hT, hne, hm, h2, hz, q1, q2⟩ := h
  by_cases hk : 2 ≤ k
  · exact op_repT pins s σ H _ _ v u Q I rx ry ⟨l, k, xs, rfl, rfl, hT, hne, hk, h2, hz, q2 (by omega)⟩
  cases rx
  obtain ⟨t, rfl⟩ := ry
  obtain ⟨its, r, ⟨⟨cls, dd, data, sl⟩, ho, hc, n, hd⟩, hs⟩ := I.tuple hT
  simp only at hc hd
  subst hc hd
  have hle : its.length = xs.length := r.length.symm
  have hn : its ≠ [] := fun e => hne (by
    rw [e] at hle
    exact List.eq_nil_of_length_eq_zero hle.symm)
  have hi : its.toArray.isEmpty = false := by
    cases its with
    | nil => exact absurd rfl hn
    | cons a b => rfl
  have c0 : (decide (k < -(2 ^ 63)) || decide (k ≥ 2 ^ 63)) = false := by
    rw [decide_eq_false (by omega), decide_eq_false (by omega)] <;> rfl
  by_cases h1 : k = 1
  · subst h1
    refine wpAny_binaryOp_repeat_ref (T := "tuple") (U := "int") (by decide) ⟨_, ho, rfl⟩ (fun s' => typeIs_int s' 1 t) noFill_tuple_mul F.fills_int_mul F.slot_int_rmul repeat_tuple F.slot_int_index.lookup
      (call_meets F.slot_int_rmul (typeIs_int s 1 t) F.entry_int_rmul (F.args_int_rmul_2 _ _) (int_rmul_tuple 1 t l its.toArray n dd sl)
        ⟨ho, rfl, ⟨_, ho, rfl⟩, call_meets F.slot_tuple_mul ⟨_, ho, rfl⟩ F.entry_tuple_mul (F.args_tuple_mul_2 _ _) (tuple_mul1 l its.toArray n dd sl 1 t c0 (by rw [hi]; rfl)) ⟨ho, ?_⟩⟩)
    exact ⟨.ref l, H, I, rfl, q1 rfl⟩
  · have h0 : k ≤ 0 := by omega
    have c1 : (its.toArray.isEmpty || k == 1) = false := by
      rw [hi, Bool.false_or]
      exact beq_eq_false_iff_ne.mpr h1
    have c2 : (decide (k ≤ 0) || its.toArray.isEmpty) = true := by rw [decide_eq_true h0]; rfl
    refine wpAny_binaryOp_repeat_ref (T := "tuple") (U := "int") (by decide) ⟨_, ho, rfl⟩ (fun s' => typeIs_int s' k t) noFill_tuple_mul F.fills_int_mul F.slot_int_rmul repeat_tuple F.slot_int_index.lookup
      (call_meets F.slot_int_rmul (typeIs_int s k t) F.entry_int_rmul (F.args_int_rmul_2 _ _) (int_rmul_tuple k t l its.toArray n dd sl)
        ⟨ho, rfl, ⟨_, ho, rfl⟩, call_meets F.slot_tuple_mul ⟨_, ho, rfl⟩ F.entry_tuple_mul (F.args_tuple_mul_2 _ _) (tuple_mul0 l its.toArray n dd sl k t c0 c1 c2) ⟨ho, ?_⟩⟩)
    have q2 := q2 h1
    rw [show k.toNat = 0 by omega] at q2
    refine ⟨.ref s.heap.objs.size, _, I.laid (t' := s.toks) (o := .tup []) (fun b ob q => Heap.get?_push_of_some _ q) (Nat.le_refl _) ?_, rfl, q2 _ (I.hok.fresh (Nat.le_refl _))⟩
    exact ⟨by rw [sizeLine_eq]; decide, [], .nil, IsTup.new _ _⟩
theorem k_op_repA {K : PySem.W.Frag} {X : Cx} (e : X.K = K) : OpR X (binaryOp .Mult) (rRepA K) := e ▸ op_repA
end Z
namespace Z
open PySem L2
open Evl (Ex)
open Dat
section
variable {K : PySem.W.Frag} {α : Type} [Dat α] {σ : L2.St} {H : Hp} {ta tb te : TE} {i : Int}
theorem er_repA {xs : Tp α} {n : Int} (ha : ER K ta σ H xs) (hb : ER K tb σ H n) (h0 : List.length xs ≠ 0) (h1 : -1000 ≤ n) (h2 : n ≤ 1000) (hz : List.length xs ≤ 1000) : ER K (tOp (rRepA K) ta tb) σ H (show Tp α from (List.replicate n.toNat (show List α from xs)).flatten) := fun H1 e Q q =>
  ha H1 e _ fun v H2 e2 r => hb.evI H2 (e.trans e2) _ fun H3 e3 => by
    obtain ⟨a, vs, rfl, s, r⟩ := Rep.tupP r
    have hl := r.len
    have s3 := e3 _ _ s
    have r3 := Reps.mono e3 r
    refine ⟨a, n, vs, rfl, rfl, SqT.of s3, (fun z => by rw [z] at hl; exact h0 hl.symm), h1, h2, by rw [hl]; exact hz, fun z => q _ H3 (e2.trans e3) (rep_tup s3 ?_), fun z p hp => q _ _ ((e2.trans e3).trans (Evl.Ex.new hp)) (rep_tup upd_same ((reps_rep (α := α) r3 n.toNat).mono (Evl.Ex.new hp)))⟩
    subst z
    show Reps K H3 vs (List.replicate 1 (show List α from xs)).flatten
    rw [List.replicate_one, List.flatten_cons, List.flatten_nil, List.append_nil]
    exact r3
theorem er_rep1 {x : α} {n : Int} (ha : ER K ta σ H (show Tp α from [x])) (hb : ER K tb σ H n) (h1 : -1000 ≤ n) (h2 : n ≤ 1000) : ER K (tOp (rRepA K) ta tb) σ H (show Tp α from List.replicate n.toNat x) := by
  have h := er_repA (xs := (show Tp α from [x])) ha hb (by show 1 ≠ 0; decide) h1 h2 (by show 1 ≤ 1000; decide)
  have e : (List.replicate n.toNat [x]).flatten = List.replicate n.toNat x := by
    generalize n.toNat = k
    induction k with
    | zero => rfl
    | succ k ih => rw [List.replicate_succ, List.flatten_cons, ih]; rfl
  exact e ▸ h
theorem er_sumT {xs : Tp Int} (ha : ER K ta σ H xs) : ER K (tCB (rSumT K) (tCons ta tNil)) σ H (List.sum (show List Int from xs)) := fun H1 e Q q =>
  ha H1 e _ fun v H2 e2 r => by
    obtain ⟨a, vs, rfl, s, r⟩ := Rep.tup r
    obtain rfl := Reps.ints r
    exact ⟨a, xs, rfl, s, q _ H2 e2 (rep_int _)⟩
theorem el_sortV {d : Nat} {B : Int} {xs : List (Tp Int)} (h : ER K te σ H xs) (hr : Rows d B xs) : EL K (tCB (rSortV K d B) (tCons te tNil)) σ H (srtK (codeT B) xs) := fun H1 e Q q => h H1 e _ fun v H2 e2 r => by
  obtain ⟨a, vs, rfl, s, r⟩ := Rep.list r
  refine ⟨a, vs, rfl, s, fun v hv => ?_, fun ws p hp hs hn => ?_⟩
  · obtain ⟨k, hk⟩ := List.getElem?_of_mem hv
    obtain ⟨t, ht, rt⟩ := r.got hk
    have hm := hr t (List.mem_of_getElem? ht)
    exact ⟨_, tupI_rep rt, hm.1, hm.2⟩
  · obtain ⟨ys, hy, ry⟩ := Reps.perm hp r
    have e : ys = srtK (codeT B) xs := by
      refine srtK_uniq hy ?_ hr.inj
      rw [List.pairwise_iff_getElem] at hs ⊢
      intro i j hi hj hij
      have li := ry.len
      obtain ⟨v1, h1, r1⟩ := ry.get (List.getElem?_eq_getElem hi)
      obtain ⟨v2, h2, r2⟩ := ry.get (List.getElem?_eq_getElem hj)
      obtain ⟨_, e1⟩ := List.getElem?_eq_some_iff.mp h1
      obtain ⟨_, e2⟩ := List.getElem?_eq_some_iff.mp h2
      have := hs i j (by omega) (by omega) hij
      rw [e1, e2] at this
      exact this _ _ (tupI_rep r1) (tupI_rep r2)
    subst e
    exact q p _ (fresh_back e2 hn) (e2.trans (Evl.Ex.new hn)) ⟨ws, upd_same, by rw [cut_updn hn]; exact ry⟩
end
end Z
set_option Elab.async false
set_option linter.all false
set_option maxRecDepth 100000
set_option maxHeartbeats 4000000
set_option autoImplicit false
/-! Z: dicts whose keys are tuples of ints; len(set(t)); x in an own instance; a class's constant. -/
namespace Z
open PySem PySem.Spec PyProof.Rows L2
/-! ### len(set(t)), t a tuple of different ints -/
def tLenSetT (K : PySem.W.Frag) (ta : TE) : TE := fun σ H Q => ta σ H fun x H1 => ∃ (l : Addr) (ns : List Int), x = V.ref l ∧ SqT K H1 l (ns.map V.int) ∧ ns.length < 1000 ∧ ns.Nodup ∧ Q (.int (ns.length : Nat)) H1
theorem pe_lenSetT {X : Cx} {a : Expr} {ta : TE} {p p2 q pos : Pos} (hc : X.calm = true) (hg : Gl X "len") (hm : X.mg "len" = none) (hg2 : Gl X "set") (hm2 : X.mg "set" = none) (ha : PE X a ta)
    (na : starEach [a] X.env = (false, eval a X.env) :: starEach [] X.env := by rfl) : PE X (.Call (.Name "len" p) [.Call (.Name "set" p2) [a] [] q] [] pos) (tLenSetT X.K ta) := by
  refine ⟨fun pins s σ H Q I h => ?_⟩
  refine Call_ (ld_blt I hg hm PySem.boot_len ?_)
  refine PyProof.Rows.callWith_builtin1 (PyProof.Rows.args_cons ?_ rfl) rfl rfl
  refine Call_ (ld_blt I hg2 hm2 PyProof.Rows.boot_set ?_)
  refine PyProof.Rows.callWith_type1 (PyProof.Rows.args_cons (thn (ha.run pins s σ H _ I h) fun v s1 ⟨x, H1, I1, r1, q1⟩ => PyProof.Rows.args_nil ?_) na) na rfl
  obtain ⟨l, ns, rfl, hq, h1, hnd, q1⟩ := q1
  cases r1
  obtain ⟨its, r, pl, hz⟩ := I1.tuple hq
  refine call_set_tupI (P := X.prog) (w := X.w) ns (I1.ok.hd hc) (show s1.heap.IsTuple l its.toArray from pl) (by simpa using r.ints) (by unfold scanBound; omega) fun h' tk c hS hle hk => ?_
  refine PyProof.Rows.args_nil ?_
  obtain ⟨o, es, ep, t, ho, hex, hd, _, hnod, hmem, _, hf, hn, _⟩ := hS
  have hl : es.size = ns.length := by
    have hp : (es.toList.map keyOf).Perm ns := (List.perm_ext_iff_of_nodup hnod hnd).mpr fun k => ((hmem k).symm.trans (by simp))
    have := hp.length_eq
    rw [List.length_map, Array.length_toList] at this
    exact this
  have I2 : Inv X pins σ H1 { s1 with heap := h', toks := tk } := I1.kept hk
  refine call_len_set ho hex hd hf (by omega) ⟨.int (ns.length : Nat), H1, I2.tok _, ⟨_, by rw [hl]⟩, q1⟩
theorem k_pe_lenSetT {K : PySem.W.Frag} {X : Cx} {x : Expr} {ta : TE} (e : X.K = K) (h : PE X x (tLenSetT X.K ta)) : PE X x (tLenSetT K ta) := e ▸ h
/-! ### x in c, x not in c: c of an own class -/
def rOwnIn (C : Addr) (sp : Sp) (E : XK) (neg : Bool) : R2 := fun x y H Q => ∃ a dx fs, y = .ref a ∧ H a = some (.ins C dx fs) ∧ sp [y, x] H (fun v H2 => ∃ b, v = .bl b ∧ Q (.bl (if neg then !b else b)) H2) E
section
variable {X : Cx} {CX : CXT} {k : Nat} {f C : Addr} {fd : FuncData} {ps : List Str} {sp : Sp} {E : XK}
theorem op_ownIn (hs : PySem.W.findIn X.K (.ref C) "__contains__" = some (some (.ref f))) (hf : PySem.W.isFn X.K (.ref f) = true) (F : FnOk X.prog X.w X.K X.mg X.base CX k f fd ps sp) (hr : Room k X.A) (hb : Binds X.K fd ps []) (hx : Passes CX X E) : OpR X (compareOp .In) (rOwnIn C sp E false) := by
  intro pins s σ H x y v u Q I rx ry h
  obtain ⟨a, dx, fs, rfl, ha, h⟩ := h
  obtain rfl : u = Value.ref a := ry
  obtain ⟨mA, O, _⟩ := ins_get I.hok ha
  obtain ⟨od, J, _⟩ := O.look
  obtain ⟨m, hF⟩ := I.fr
  refine PySem.W.in_K hF I.ok.mod.kin J hs hf ?_
  refine thn (run_fn (dvs := []) (ds := []) (us := [.ref a, v]) (vs := [.ref a, x]) F hr hb .nil hx I (.cons rfl (.cons rx .nil)) (by rw [List.append_nil]; exact h)) fun r s' hq => ?_
  obtain ⟨z, H', I', rz, b, rfl, q⟩ := hq
  obtain rfl : r = Value.bool b := rz
  exact wpAny_truthy_bool ⟨.bl b, H', I', rfl, q⟩
theorem op_ownNotIn (hs : PySem.W.findIn X.K (.ref C) "__contains__" = some (some (.ref f))) (hf : PySem.W.isFn X.K (.ref f) = true) (F : FnOk X.prog X.w X.K X.mg X.base CX k f fd ps sp) (hr : Room k X.A) (hb : Binds X.K fd ps []) (hx : Passes CX X E) : OpR X (compareOp .NotIn) (rOwnIn C sp E true) := by
  intro pins s σ H x y v u Q I rx ry h
  obtain ⟨a, dx, fs, rfl, ha, h⟩ := h
  obtain rfl : u = Value.ref a := ry
  obtain ⟨mA, O, _⟩ := ins_get I.hok ha
  obtain ⟨od, J, _⟩ := O.look
  obtain ⟨m, hF⟩ := I.fr
  refine PySem.W.notIn_K hF I.ok.mod.kin J hs hf ?_
  refine thn (run_fn (dvs := []) (ds := []) (us := [.ref a, v]) (vs := [.ref a, x]) F hr hb .nil hx I (.cons rfl (.cons rx .nil)) (by rw [List.append_nil]; exact h)) fun r s' hq => ?_
  obtain ⟨z, H', I', rz, b, rfl, q⟩ := hq
  obtain rfl : r = Value.bool b := rz
  exact wpAny_truthy_bool ⟨.bl (!b), H', I', rfl, q⟩
end
theorem u1 {k : Nat} {A : Around} (r : Room k A) : A.units + 1 < cLine := by have := r.un; omega
end Z
namespace Z
open PySem L2
open Evl (Ex)
open Dat
/-! ### dicts with tuple keys -/
def tkey (t : Tp Int) : List Key := (show List Int from t).map Sum.inl
theorem tkey_kV (t : Tp Int) : (tkey t).map kV = (show List Int from t).map V.int := by
  unfold tkey
  rw [List.map_map]
  rfl
theorem tkey_inj {t u : Tp Int} (h : tkey t = tkey u) : t = u := List.map_inj_right (fun _ _ e => Sum.inl.inj e) |>.mp h
section
variable {K : PySem.W.Frag} {α : Type} [Dat α] {σ : L2.St} {G H : Hp} {td ty tv te : TE} {u : TS} {D : Ends}
theorem key_at {v : V} {t : Tp Int} (r : Rep K H v t) : ∃ b, v = .ref b ∧ H b = some (.tup ((tkey t).map kV)) := by
  obtain ⟨b, vs, rfl, s, rr⟩ := Rep.tupP r
  obtain rfl := Reps.ints rr
  exact ⟨b, rfl, by rw [tkey_kV]; exact s⟩
theorem er_dinT {d : Addr} {kvs : List (List Key × V)} {t : Tp Int} (hd : EV K td σ H (.ref d)) (hk : ER K ty σ H t) (h : H d = some (.dT kvs)) : ER K (tDIn ty td) σ H (valV kvs (tkey t)).isSome := fun H1 e Q q =>
  hk H1 e _ fun v H2 e2 r => hd H2 (e.trans e2) _ fun H3 e3 => by
    obtain ⟨b, rfl, s⟩ := key_at (r.mono e3)
    exact ⟨d, _, rfl, DGet.t ((e.trans (e2.trans e3)) _ _ h) s, q _ H3 (e2.trans e3) (rep_bool _)⟩
theorem er_dnotinT {d : Addr} {kvs : List (List Key × V)} {t : Tp Int} (hd : EV K td σ H (.ref d)) (hk : ER K ty σ H t) (h : H d = some (.dT kvs)) : ER K (tDNotIn ty td) σ H (!(valV kvs (tkey t)).isSome) := fun H1 e Q q =>
  hk H1 e _ fun v H2 e2 r => hd H2 (e.trans e2) _ fun H3 e3 => by
    obtain ⟨b, rfl, s⟩ := key_at (r.mono e3)
    exact ⟨d, _, rfl, DGet.t ((e.trans (e2.trans e3)) _ _ h) s, q _ H3 (e2.trans e3) (rep_bool _)⟩
/-- d[t] = v -/
theorem s_dputT {d : Addr} {kvs : List (List Key × V)} {t : Tp Int} {v : V} (hv : EV K tv σ H v) (hd : ∀ H1, Ex H H1 → EV K td σ H1 (.ref d)) (hk : ∀ H1, Ex H H1 → ER K ty σ H1 t) (h : H d = some (.dT kvs)) (hl : kvs.length < 100000)
    (c : ∀ H', (∀ G, Ex G H → G d = none → Ex G H') → Tups H H' → H' d = some (.dT (putK kvs (tkey t) v)) → D.nx σ H') : sDPut td ty tv D σ H :=
  hv H (Ex.refl H) _ fun H1 e1 => hd H1 e1 H1 (Ex.refl H1) _ fun H2 e2 => hk H2 (e1.trans e2) H2 (Ex.refl H2) _ fun w H3 e3 r => by
    have e := e1.trans (e2.trans e3)
    have h3 := e _ _ h
    obtain ⟨b, rfl, s⟩ := key_at r
    refine ⟨d, _, rfl, DPut.t h3 s (Evl.sz_lt hl), c _ (fun G eG hG => ex_mut (eG.trans e) hG) (fun a ys z => ?_) upd_same⟩
    have z3 := e _ _ z
    rw [upd_ne (fun y => by rw [y, h3] at z3; cases z3)]
    exact z3
theorem q_dputT {d : Addr} {kvs : List (List Key × V)} {t : Tp Int} {v : V} (hv : EV K tv σ H v) (hd : ∀ H1, Ex H H1 → EV K td σ H1 (.ref d)) (hk : ∀ H1, Ex H H1 → ER K ty σ H1 t) (h : H d = some (.dT kvs)) (hl : kvs.length < 100000)
    (c : ∀ H', (∀ G, Ex G H → G d = none → Ex G H') → Tups H H' → H' d = some (.dT (putK kvs (tkey t) v)) → u D σ H') : tSeq (sDPut td ty tv) u D σ H := s_dputT (D := { D with nx := u D }) hv hd hk h hl c
theorem q_dnewT {i : Nat} (k : ∀ p H', H p = none → Ex H H' → H' p = some (.dT []) → u D (σ.set i (some (.ref p))) H') : tSeq (tAsg tDNewT (gName i)) u D σ H := fun p hp => k p _ hp (Evl.Ex.new hp) upd_same
theorem keys_reps' : ∀ {kvs : List (List Key × V)} {ts : List (Tp Int)} {bs : List Addr}, kvs.map (·.1) = ts.map tkey → IsKeys H kvs bs → Reps K H (bs.map V.ref) ts
  | [], [], _, _, .nil => reps_nil
  | [], _ :: _, _, hk, _ => by cases hk
  | _ :: _, [], _, hk, _ => by cases hk
  | kv :: kvs, t :: ts, _, hk, .cons h1 h2 => by
    rw [List.map_cons, List.map_cons] at hk
    injection hk with k1 k2
    refine Reps.cons ?_ (keys_reps' k2 h2)
    rw [k1, tkey_kV] at h1
    exact rep_tup h1 (Reps.int_map _)
/-- list(d) -/
theorem el_listD {d : Addr} {kvs : List (List Key × V)} {ts : List (Tp Int)} (hd : EV K td σ H (.ref d)) (h : H d = some (.dT kvs)) (hk : kvs.map (·.1) = ts.map tkey) :
    EL K (tCB (fun xs H Q => ∃ d kvs, xs = [V.ref d] ∧ Rd H d (.dT kvs) ∧ ∀ p bs, H p = none → IsKeys H kvs bs → Q (.ref p) (upd H p (.lst (bs.map V.ref)))) (tCons td tNil)) σ H ts := fun H1 e Q q =>
  hd H1 e _ fun H2 e2 => by
    exact ⟨d, kvs, rfl, .inl ((e.trans e2) _ _ h), fun p bs hp hb => q p _ (fresh_back e2 hp) (e2.trans (Evl.Ex.new hp)) ⟨_, upd_same, by
    rw [cut_updn hp]
    exact keys_reps' hk hb⟩⟩
theorem valV_none {κ : Type} [DecidableEq κ] {kvs : List (κ × V)} {k : κ} : valV kvs k = none ↔ k ∉ kvs.map (·.1) := by
  induction kvs with
  | nil => simp [valV_nil]
  | cons p r ih =>
    by_cases e : p.1 = k
    · rw [valV_pos e]
      simp [e]
    · rw [valV_neg e, ih]
      simp only [List.map_cons, List.mem_cons, not_or]
      exact ⟨fun h => ⟨fun z => e z.symm, h⟩, fun h => h.2⟩
end
end Z
namespace Z
open PySem L2
open Evl (Ex)
/-! ### a class's constant -/
theorem k_pe_cval {K : PySem.W.Frag} {X : Cx} {x : Expr} {ta : TE} {f : Str} (e : X.K = K) (h : PE X x (ClX.tCVal X.K ta f)) : PE X x (ClX.tCVal K ta f) := e ▸ h
theorem er_cval {K : PySem.W.Frag} {σ : L2.St} {H : Hp} {C : Addr} {mc : Value} {f : Str} {n : Int} (r : ClX.CRead K C mc) (k : ∃ t, ClX.CVal K C mc f (.int n) (.int n t)) : ER K (ClX.tCVal K (tC (.ref C)) f) σ H n := fun H1 e Q q =>
  let ⟨t, k⟩ := k
  ⟨C, mc, .int n, .int n t, rfl, r, k, q _ H1 (Ex.refl H1) (rep_int n)⟩
end Z
set_option Elab.async false
set_option linter.all false
set_option maxRecDepth 100000
set_option maxHeartbeats 2000000
set_option autoImplicit false
/-! Z: zip of two sequences, each a list or a tuple: what is asked of their iterators. -/
namespace Z
open PySem PySem.Spec PyProof.Rows
/-- iterators of one kind: it stands at i over l -/
structure SeqIt (prog : Program) (w : World) where
  Is : Heap → Addr → Addr → Nat → Prop
  Sq : Heap → Addr → Array Value → Prop
  isE : ∀ {h h' : Heap} {it l b : Addr} {i : Nat}, Is h it l i → Heap.ExtBut b h h' → it ≠ b → Is h' it l i
  sqE : ∀ {h h' : Heap} {l b : Addr} {xs : Array Value}, Sq h l xs → Heap.ExtBut b h h' → l ≠ b → Sq h' l xs
  atE : ∀ {h h' : Heap} {it l : Addr} {i : Nat}, Is h it l i → (∀ o, h.get? it = some o → h'.get? it = some o) → Is h' it l i
  lt : ∀ {h : Heap} {it l : Addr} {i : Nat}, Is h it l i → it < h.objs.size
  ob : ∀ {h : Heap} {it l : Addr} {i : Nat}, Is h it l i → ∃ o, h.get? it = some o ∧ ∀ v, o.data ≠ .cell v
  item : ∀ {A : Around} {E : Value → Shared → Prop} {s : Shared} {it l : Addr} {i : Nat} {items : Array Value} {x : Value} {Q : Value → Shared → Prop}, Is s.heap it l i → Sq s.heap l items → items[i]? = some x →
    (∀ h', Is h' it l (i + 1) → Heap.SameBut it s.heap h' → Q x { s with heap := h' }) → wpAny (model prog w) A (Builtin.SmallTypes.nextOf (.ref it)) Q E s
  fin : ∀ {A : Around} {E : Value → Shared → Prop} {s : Shared} {it l : Addr} {i : Nat} {items : Array Value} {Q : Value → Shared → Prop}, A.handled = none → Is s.heap it l i → Sq s.heap l items → items[i]? = none →
    (∀ h' e, Heap.ExtBut it s.heap h' → (∃ o, h'.get? e = some o ∧ o.cls = .type "StopIteration") → E (.ref e) { s with heap := h' }) → wpAny (model prog w) A (Builtin.SmallTypes.nextOf (.ref it)) Q E s
def listIt (prog : Program) (w : World) : SeqIt prog w where
  Is h it l i := h.IsListIter it l i
  Sq h l xs := h.IsList l xs
  isE x e d := x.extBut e d
  sqE x e d := x.extBut e d
  atE x e := x.at e
  lt x := by obtain ⟨_, e, _⟩ := x; exact Heap.lt_size e
  ob x := by obtain ⟨o, e, _, d⟩ := x; exact ⟨o, e, fun v q => by rw [d] at q; cases q⟩
  item h1 h2 h3 h4 := wpAny_nextOf_list_item h1 h2 h3 h4
  fin h0 h1 h2 h3 h4 := wpAny_nextOf_list_end h0 h1 h2 h3 h4
def tupIt (prog : Program) (w : World) : SeqIt prog w where
  Is h it l i := h.IsTupleIter it l i
  Sq h l xs := h.IsTuple l xs
  isE x e d := x.extBut e d
  sqE x e d := x.extBut e d
  atE x e := x.at e
  lt x := by obtain ⟨_, e, _⟩ := x; exact Heap.lt_size e
  ob x := by obtain ⟨o, e, _, d⟩ := x; exact ⟨o, e, fun v q => by rw [d] at q; cases q⟩
  item h1 h2 h3 h4 := RZ.nextOf_tuple_item h1 h2 h3 h4
  fin h0 h1 h2 h3 h4 := RZ.nextOf_tuple_end h0 h1 h2 h3 h4
section
variable {prog : Program} {w : World} {A : Around} {E : Value → Shared → Prop} {s : Shared} {g1 g2 : SeqIt prog w}
theorem zipG_item {z TI TO i1 i2 l1 l2 : Addr} {k1 k2 : Nat} {xs ys : Array Value} {x y a b : Value} {Q : Value → Shared → Prop} (D : ZipApart z TI TO i1 i2 l1 l2)
    (hz : IsZip s.heap z TI TO .none) (hTI : IsPair s.heap TI (.ref i1) (.ref i2)) (hTO : IsPair s.heap TO a b)
    (h1 : g1.Is s.heap i1 l1 k1) (h2 : g2.Is s.heap i2 l2 k2) (hl1 : g1.Sq s.heap l1 xs) (hl2 : g2.Sq s.heap l2 ys) (hx : xs[k1]? = some x) (hy : ys[k2]? = some y)
    (hQ : ∀ h', IsZip h' z TI TO (rawInt s.heap.objs.size) → IsPair h' TO x y → g1.Is h' i1 l1 (k1 + 1) → g2.Is h' i2 l2 (k2 + 1) → IsPair h' s.heap.objs.size x y → h'.objs.size = s.heap.objs.size + 1 →
      (∀ c o, c ≠ z → c ≠ TO → c ≠ i1 → c ≠ i2 → s.heap.get? c = some o → h'.get? c = some o) → Q (.ref s.heap.objs.size) { s with heap := h' }) :
    wpAny (model prog w) A (Builtin.«zip.__next__» ⟨[.ref z], []⟩) (fun fin s' => ∃ v, fin = .done (.ret v) ∧ Q v s') E s := by
  show wpAny _ _ (field (.ref z) 2 >>= _) _ _ _
  refine wpAny_bind (wpAny_field hz rfl (x := .bool false) rfl ?_)
  show wpAny _ _ (field (.ref z) 3 >>= _) _ _ _
  refine wpAny_bind (wpAny_field hz rfl (x := .ref TI) rfl ?_)
  refine wpAny_bind (wpAny_seqItems hTI rfl ?_)
  show wpAny _ _ (Builtin.SmallTypes.ownedTupleIsFree (.ref z) >>= _) _ _ _
  refine wpAny_bind ?_
  unfold Builtin.SmallTypes.ownedTupleIsFree
  refine wpAny_bind (wpAny_field hz rfl (x := .none) rfl (wpAny_pure ?_))
  simp only [if_true]
  refine wpAny_bind (wpAny_rule ?_)
  refine wpAny_bind (wpAny_field hz rfl (x := .ref TO) rfl ?_)
  refine wpAny_bind (wpAny_setField_rec hz (by simp) fun h₁ hz₁ hs₁ => ?_)
  replace hz₁ : IsZip h₁ z TI TO .ellipsis := hz₁
  refine wpAny_bind ?_
  simp only [List.zipIdx_cons, List.zipIdx_nil, List.forIn_cons, List.forIn_nil]
  refine wpAny_bind (wpAny_bind (wpAny_onRaise ?_))
  show wpAny _ _ (Builtin.SmallTypes.nextOf (.ref i1) >>= _) _ _ _
  refine wpAny_bind (g1.item (g1.isE h1 hs₁.extBut D.i1z) (g1.sqE hl1 hs₁.extBut D.l1z) hx fun h₂ h1₂ hs₂ => wpAny_pure ?_)
  have hTO₂ : IsPair h₂ TO a b := hs₂.extBut _ _ D.TOi1 (hs₁.extBut _ _ D.TOz hTO)
  refine wpAny_bind (wpAny_seqItems hTO₂ rfl ?_)
  refine wpAny_bind (wpAny_updateSeq_pair hTO₂ fun h₃ hTO₃ hs₃ => ?_)
  replace hTO₃ : IsPair h₃ TO x b := hTO₃
  refine wpAny_bind (wpAny_letGo (wpAny_pure ?_))
  refine wpAny_bind (wpAny_bind (wpAny_onRaise ?_))
  show wpAny _ _ (Builtin.SmallTypes.nextOf (.ref i2) >>= _) _ _ _
  refine wpAny_bind (g2.item (g2.isE (g2.isE (g2.isE h2 hs₁.extBut D.i2z) hs₂.extBut D.i12.symm) hs₃.extBut D.TOi2.symm)
    (g2.sqE (g2.sqE (g2.sqE hl2 hs₁.extBut D.l2z) hs₂.extBut D.l2i1) hs₃.extBut D.l2TO) hy fun h₄ h2₄ hs₄ => wpAny_pure ?_)
  have hTO₄ : IsPair h₄ TO x b := hs₄.extBut _ _ D.TOi2 hTO₃
  refine wpAny_bind (wpAny_seqItems hTO₄ rfl ?_)
  refine wpAny_bind (wpAny_updateSeq_pair hTO₄ fun h₅ hTO₅ hs₅ => ?_)
  replace hTO₅ : IsPair h₅ TO x y := hTO₅
  refine wpAny_bind (wpAny_letGo (wpAny_pure (wpAny_pure ?_)))
  refine wpAny_bind (wpAny_seqItems hTO₅ rfl ?_)
  refine wpAny_bind (wpAny_newTuple ?_)
  have hsz : h₅.objs.size = s.heap.objs.size := by rw [hs₅.1, hs₄.1, hs₃.1, hs₂.1, hs₁.1]
  have hz₅ : IsZip h₅ z TI TO .ellipsis := hs₅.extBut _ _ D.TOz.symm (hs₄.extBut _ _ D.i2z.symm (hs₃.extBut _ _ D.TOz.symm (hs₂.extBut _ _ D.i1z.symm hz₁)))
  have hk₅ : ∀ c o, c ≠ z → c ≠ TO → c ≠ i1 → c ≠ i2 → s.heap.get? c = some o → h₅.get? c = some o := fun c o c1 c2 c3 c4 e =>
    hs₅.extBut _ _ c2 (hs₄.extBut _ _ c4 (hs₃.extBut _ _ c2 (hs₂.extBut _ _ c3 (hs₁.extBut _ _ c1 e))))
  have h1₅ : g1.Is h₅ i1 l1 (k1 + 1) := g1.isE (g1.isE (g1.isE h1₂ hs₃.extBut D.TOi1.symm) hs₄.extBut D.i12) hs₅.extBut D.TOi1.symm
  have h2₅ : g2.Is h₅ i2 l2 (k2 + 1) := g2.isE h2₄ hs₅.extBut D.TOi2.symm
  have hzlt : z < h₅.objs.size := Heap.lt_size hz₅
  have hTOlt : TO < h₅.objs.size := Heap.lt_size hTO₅
  have hi1lt : i1 < h₅.objs.size := g1.lt h1₅
  have hi2lt : i2 < h₅.objs.size := g2.lt h2₅
  show wpAny _ _ (Builtin.SmallTypes.ownedTupleHandOut (.ref z) (.ref h₅.objs.size) >>= _) _ _ _
  refine wpAny_bind ?_
  unfold Builtin.SmallTypes.ownedTupleHandOut
  have hz₆ : IsZip (h₅.push { cls := .type "tuple", data := .seq #[x, y] }) z TI TO .ellipsis := Heap.get?_push_of_some _ hz₅
  refine wpAny_bind (wpAny_setField_rec hz₆ (by simp) fun h₇ hz₇ hs₇ => ?_)
  replace hz₇ : IsZip h₇ z TI TO (rawInt h₅.objs.size) := hz₇
  refine wpAny_setField_rec hz₇ (by simp) fun h₈ hz₈ hs₈ => ?_
  replace hz₈ : IsZip h₈ z TI TO (rawInt h₅.objs.size) := hz₈
  have up : ∀ c o, c ≠ z → h₅.get? c = some o → h₈.get? c = some o := fun c o c1 e => hs₈.extBut _ _ c1 (hs₇.extBut _ _ c1 (Heap.get?_push_of_some _ e))
  have hT₈ : IsPair h₈ h₅.objs.size x y := hs₈.extBut _ _ (Nat.ne_of_gt hzlt) (hs₇.extBut _ _ (Nat.ne_of_gt hzlt) (Heap.get?_push_size _ rfl))
  have hz8 : h₈.objs.size = h₅.objs.size + 1 := by rw [hs₈.1, hs₇.1, Heap.size_push]
  rw [hsz] at hz₈ hT₈ hz8
  refine wpAny_pure ⟨_, rfl, ?_⟩
  show Q (.ref h₅.objs.size) _
  rw [hsz]
  exact hQ h₈ hz₈ (up _ _ D.TOz hTO₅) (g1.atE h1₅ fun o e => up _ o D.i1z e) (g2.atE h2₅ fun o e => up _ o D.i2z e) hT₈ hz8 fun c o c1 c2 c3 c4 e => up c o c1 (hk₅ c o c1 c2 c3 c4 e)
theorem zipG_end {z TI TO i1 i2 l1 l2 : Addr} {k1 k2 : Nat} {xs ys : Array Value} {a b : Value} {Q : Fin → Shared → Prop} (hh : A.handled = none) (D : ZipApart z TI TO i1 i2 l1 l2)
    (hz : IsZip s.heap z TI TO .none) (hTI : IsPair s.heap TI (.ref i1) (.ref i2)) (hTO : IsPair s.heap TO a b)
    (h1 : g1.Is s.heap i1 l1 k1) (h2 : g2.Is s.heap i2 l2 k2) (hl1 : g1.Sq s.heap l1 xs) (hl2 : g2.Sq s.heap l2 ys) (hend : xs[k1]? = none ∨ ys[k2]? = none)
    (hE : ∀ h' e, (∀ c o, c ≠ z → c ≠ TO → c ≠ i1 → c ≠ i2 → s.heap.get? c = some o → h'.get? c = some o) → (∃ o, h'.get? e = some o ∧ o.cls = .type "StopIteration") → E (.ref e) { s with heap := h' }) :
    wpAny (model prog w) A (Builtin.«zip.__next__» ⟨[.ref z], []⟩) Q E s := by
  show wpAny _ _ (field (.ref z) 2 >>= _) _ _ _
  refine wpAny_bind (wpAny_field hz rfl (x := .bool false) rfl ?_)
  show wpAny _ _ (field (.ref z) 3 >>= _) _ _ _
  refine wpAny_bind (wpAny_field hz rfl (x := .ref TI) rfl ?_)
  refine wpAny_bind (wpAny_seqItems hTI rfl ?_)
  show wpAny _ _ (Builtin.SmallTypes.ownedTupleIsFree (.ref z) >>= _) _ _ _
  refine wpAny_bind ?_
  unfold Builtin.SmallTypes.ownedTupleIsFree
  refine wpAny_bind (wpAny_field hz rfl (x := .none) rfl (wpAny_pure ?_))
  simp only [if_true]
  refine wpAny_bind (wpAny_rule ?_)
  refine wpAny_bind (wpAny_field hz rfl (x := .ref TO) rfl ?_)
  refine wpAny_bind (wpAny_setField_rec hz (by simp) fun h₁ hz₁ hs₁ => ?_)
  replace hz₁ : IsZip h₁ z TI TO .ellipsis := hz₁
  refine wpAny_bind ?_
  simp only [List.zipIdx_cons, List.zipIdx_nil, List.forIn_cons, List.forIn_nil]
  refine wpAny_bind (wpAny_bind (wpAny_onRaise ?_))
  show wpAny _ _ (Builtin.SmallTypes.nextOf (.ref i1) >>= _) _ _ _
  cases hx : xs[k1]? with
  | none =>
    refine wpAny_bind (g1.fin hh (g1.isE h1 hs₁.extBut D.i1z) (g1.sqE hl1 hs₁.extBut D.l1z) hx fun h₂ e hs₂ he => ?_)
    obtain ⟨oe, hoe, hce⟩ := he
    have hz₂ : IsZip h₂ z TI TO .ellipsis := hs₂ _ _ D.i1z.symm hz₁
    have hez : e ≠ z := fun x => by subst x; rw [hz₂] at hoe; cases hoe; simp at hce
    refine wpAny_setField_rec hz₂ (by simp) fun h₃ _ hs₃ => hE h₃ e (fun c o c1 _ c3 _ x => hs₃.extBut _ _ c1 (hs₂ _ _ c3 (hs₁.extBut _ _ c1 x))) ⟨oe, hs₃.extBut _ _ hez hoe, hce⟩
  | some x =>
    have hy : ys[k2]? = none := by rcases hend with h | h; rw [hx] at h; cases h; exact h
    refine wpAny_bind (g1.item (g1.isE h1 hs₁.extBut D.i1z) (g1.sqE hl1 hs₁.extBut D.l1z) hx fun h₂ h1₂ hs₂ => wpAny_pure ?_)
    have hTO₂ : IsPair h₂ TO a b := hs₂.extBut _ _ D.TOi1 (hs₁.extBut _ _ D.TOz hTO)
    refine wpAny_bind (wpAny_seqItems hTO₂ rfl ?_)
    refine wpAny_bind (wpAny_updateSeq_pair hTO₂ fun h₃ hTO₃ hs₃ => ?_)
    refine wpAny_bind (wpAny_letGo (wpAny_pure ?_))
    refine wpAny_bind (wpAny_bind (wpAny_onRaise ?_))
    show wpAny _ _ (Builtin.SmallTypes.nextOf (.ref i2) >>= _) _ _ _
    refine wpAny_bind (g2.fin hh (g2.isE (g2.isE (g2.isE h2 hs₁.extBut D.i2z) hs₂.extBut D.i12.symm) hs₃.extBut D.TOi2.symm)
      (g2.sqE (g2.sqE (g2.sqE hl2 hs₁.extBut D.l2z) hs₂.extBut D.l2i1) hs₃.extBut D.l2TO) hy fun h₄ e hs₄ he => ?_)
    obtain ⟨oe, hoe, hce⟩ := he
    have hz₄ : IsZip h₄ z TI TO .ellipsis := hs₄ _ _ D.i2z.symm (hs₃.extBut _ _ D.TOz.symm (hs₂.extBut _ _ D.i1z.symm hz₁))
    have hez : e ≠ z := fun x => by subst x; rw [hz₄] at hoe; cases hoe; simp at hce
    refine wpAny_setField_rec hz₄ (by simp) fun h₅ _ hs₅ => hE h₅ e (fun c o c1 c2 c3 c4 x => hs₅.extBut _ _ c1 (hs₄ _ _ c4 (hs₃.extBut _ _ c2 (hs₂.extBut _ _ c3 (hs₁.extBut _ _ c1 x))))) ⟨oe, hs₅.extBut _ _ hez hoe, hce⟩
theorem next_zipG {z TI TO i1 i2 l1 l2 : Addr} {k1 k2 : Nat} {xs ys : Array Value} {x y a b : Value} {Q : Option Value → Shared → Prop} (D : ZipApart z TI TO i1 i2 l1 l2)
    (hz : IsZip s.heap z TI TO .none) (hTI : IsPair s.heap TI (.ref i1) (.ref i2)) (hTO : IsPair s.heap TO a b)
    (h1 : g1.Is s.heap i1 l1 k1) (h2 : g2.Is s.heap i2 l2 k2) (hl1 : g1.Sq s.heap l1 xs) (hl2 : g2.Sq s.heap l2 ys) (hx : xs[k1]? = some x) (hy : ys[k2]? = some y)
    (hQ : ∀ h', IsZip h' z TI TO (rawInt s.heap.objs.size) → IsPair h' TO x y → g1.Is h' i1 l1 (k1 + 1) → g2.Is h' i2 l2 (k2 + 1) → IsPair h' s.heap.objs.size x y → h'.objs.size = s.heap.objs.size + 1 →
      (∀ c o, c ≠ z → c ≠ TO → c ≠ i1 → c ≠ i2 → s.heap.get? c = some o → h'.get? c = some o) → Q (some (.ref s.heap.objs.size)) { s with heap := h' }) :
    wpAny (model prog w) A (pyNext (.ref z)) Q E s := by
  have hT : s.TypeIs (.ref z) "zip" := ⟨_, hz, rfl⟩
  unfold pyNext
  exact wpAny_bind (wpAny_attempt (wpAny_callSpecial?_slot (name := Str.ofString "__next__") hT F.slot_zip_next
    (wpAny_call_entry F.slot_zip_next hT F.entry_zip_next
      (zipG_item D hz hTI hTO h1 h2 hl1 hl2 hx hy fun h' a1 a2 a3 a4 a5 a6 a7 => wpAny_pure (hQ h' a1 a2 a3 a4 a5 a6 a7)) (F.args_zip_next_1 _))))
theorem next_zipG_end {z TI TO i1 i2 l1 l2 : Addr} {k1 k2 : Nat} {xs ys : Array Value} {a b : Value} {Q : Option Value → Shared → Prop} (hh : A.handled = none) (D : ZipApart z TI TO i1 i2 l1 l2)
    (hz : IsZip s.heap z TI TO .none) (hTI : IsPair s.heap TI (.ref i1) (.ref i2)) (hTO : IsPair s.heap TO a b)
    (h1 : g1.Is s.heap i1 l1 k1) (h2 : g2.Is s.heap i2 l2 k2) (hl1 : g1.Sq s.heap l1 xs) (hl2 : g2.Sq s.heap l2 ys) (hend : xs[k1]? = none ∨ ys[k2]? = none)
    (hQ : ∀ h', (∀ c o, c ≠ z → c ≠ TO → c ≠ i1 → c ≠ i2 → s.heap.get? c = some o → h'.get? c = some o) → Q none { s with heap := h' }) : wpAny (model prog w) A (pyNext (.ref z)) Q E s := by
  have hT : s.TypeIs (.ref z) "zip" := ⟨_, hz, rfl⟩
  unfold pyNext
  refine wpAny_bind (wpAny_attempt (wpAny_callSpecial?_slot (name := Str.ofString "__next__") hT F.slot_zip_next
    (wpAny_call_entry F.slot_zip_next hT F.entry_zip_next (zipG_end hh D hz hTI hTO h1 h2 hl1 hl2 hend fun h' e hk he => ?_) (F.args_zip_next_1 _))))
  obtain ⟨o, ho, hc⟩ := he
  refine wpAny_bind (wpAny_isInstance (T := "StopIteration") (b := true) ⟨o, ho, hc⟩ isSubtype_stop ?_)
  exact wpAny_pure (hQ _ hk)
end
/-! ### zip(xs, t): a list, a tuple -/
open L2 in
def ItzM (K : PySem.W.Frag) (a b : Addr) : It :=
  ⟨fun i H => ∃ (xs ys : List V) (x y : V), SqL K H a xs ∧ SqT K H b ys ∧ xs[i]? = some x ∧ ys[i]? = some y,
    fun i H v H' => ∃ T x y, v = .ref T ∧ H T = none ∧ H' = L2.upd H T (.tup [x, y]) ∧ (∀ xs, SqL K H a xs → xs[i]? = some x) ∧ ∀ ys, SqT K H b ys → ys[i]? = some y,
    fun i H => ∃ xs ys : List V, SqL K H a xs ∧ SqT K H b ys ∧ (xs.length ≤ i ∨ ys.length ≤ i)⟩
/-- the five things a zip lays -/
def ZipAt {prog : Program} {w : World} (g1 g2 : SeqIt prog w) (z TI TO i1 i2 a b : Addr) (i : Nat) (h : Heap) : Prop := IsZip h z TI TO .none ∧ IsPair h TI (.ref i1) (.ref i2) ∧ (∃ x y, IsPair h TO x y) ∧ g1.Is h i1 a i ∧ g2.Is h i2 b i
section
open L2
variable {P : Program} {w : World} {K : PySem.W.Frag} {elts : List Expr} {kk : Nat} {tpos : Pos} {a b z TI TO i1 i2 : Addr}
theorem zip5 {c : Addr} : c ∈ [z, TI, TO, i1, i2] ↔ c = z ∨ c = TI ∨ c = TO ∨ c = i1 ∨ c = i2 := by simp
theorem turn_zipM (D : ZipApart z TI TO i1 i2 a b) : Turn P w K (.Tuple elts kk tpos) (ItzM K a b) [z, TI, TO, i1, i2] z (ZipAt (listIt P w) (tupIt P w) z TI TO i1 i2 a b) where
  mem := List.mem_cons_self ..
  obj := fun i h st c hc => by
    obtain ⟨hz, hTI, ⟨x, y, hTO⟩, h1, h2⟩ := st
    rcases zip5.mp hc with rfl | rfl | rfl | rfl | rfl
    · exact ⟨_, hz, fun v q => nomatch q⟩
    · exact ⟨_, hTI, fun v q => nomatch q⟩
    · exact ⟨_, hTO, fun v q => nomatch q⟩
    · exact (listIt P w).ob h1
    · exact (tupIt P w).ob h2
  keep := fun i h h' st k => by
    obtain ⟨hz, hTI, ⟨x, y, hTO⟩, h1, h2⟩ := st
    have k' := fun c hc => k c (zip5.mpr hc)
    exact ⟨k' z (.inl rfl) _ hz, k' TI (.inr (.inl rfl)) _ hTI, ⟨x, y, k' TO (.inr (.inr (.inl rfl))) _ hTO⟩, (listIt P w).atE h1 (k' i1 (.inr (.inr (.inr (.inl rfl))))), (tupIt P w).atE h2 (k' i2 (.inr (.inr (.inr (.inr rfl)))))⟩
  item := by
    intro X hP hw hK hc i pins s σ H E I hf st hg
    subst hP hw hK
    obtain ⟨hz, hTI, ⟨x0, y0, hTO⟩, h1, h2⟩ := st
    obtain ⟨xs, ys, x, y, hqx, hqy, hx, hy⟩ := hg
    obtain ⟨its, rv, p, _⟩ := I.list hqx
    obtain ⟨its2, rv2, p2, _⟩ := I.tuple hqy
    obtain ⟨u, hu, ru⟩ := rv.get hx
    obtain ⟨u2, hu2, ru2⟩ := rv2.get hy
    have out : ∀ {c : Addr}, c ∉ [z, TI, TO, i1, i2] → c ≠ z ∧ c ≠ TO ∧ c ≠ i1 ∧ c ≠ i2 := fun hb => ⟨fun q => hb (zip5.mpr (.inl q)), fun q => hb (zip5.mpr (.inr (.inr (.inl q)))), fun q => hb (zip5.mpr (.inr (.inr (.inr (.inl q))))), fun q => hb (zip5.mpr (.inr (.inr (.inr (.inr q)))))⟩
    refine next_zipG (g1 := listIt X.prog X.w) (g2 := tupIt X.prog X.w) D hz hTI hTO h1 h2 p.isList (show s.heap.IsTuple b its2.toArray from p2) (x := u) (y := u2) (by simpa using hu) (by simpa using hu2) fun h' z' TO' h1' h2' hT hsz hk => ?_
    refine ⟨_, rfl, wpAny_letOwnedTupleGo_zip (s := { s with heap := h' }) z' fun h'' z'' sb => ?_⟩
    have hT2 := (sb.2 _ (Nat.ne_of_gt (Heap.lt_size hz))).trans hT
    have I1 := I.turnedNew (t' := s.toks) (ch := [z, TI, TO, i1, i2]) (ob := .tup [x, y]) (fun c o hb q => (sb.2 c (out hb).1).trans (hk c o (out hb).1 (out hb).2.1 (out hb).2.2.1 (out hb).2.2.2 q)) hf (Nat.le_refl _)
      (show ObjOk X.prog X.w (L2.upd H s.heap.objs.size (.tup [x, y])) h'' s.heap.objs.size (.tup [x, y]) from ⟨by show 2 ≤ sizeLine; decide, [u, u2], .cons ru (.cons ru2 .nil), ⟨_, hT2, rfl, _, rfl⟩⟩)
    refine ⟨.ref s.heap.objs.size, _, I1, rfl, ⟨_, x, y, rfl, I.hok.fresh (Nat.le_refl _), rfl, fun l hl => by rw [I.list_inj hl hqx]; exact hx, fun l hl => by rw [I.tuple_inj hl hqy]; exact hy⟩, ⟨z'', (sb.2 _ D.TIz).trans (hk _ _ D.TIz D.TITO D.TIi1 D.TIi2 hTI), ⟨u, u2, (sb.2 _ D.TOz).trans TO'⟩, (listIt X.prog X.w).atE h1' fun o q => (sb.2 _ D.i1z).trans q, (tupIt X.prog X.w).atE h2' fun o q => (sb.2 _ D.i2z).trans q⟩, fun c hcm => ?_⟩
    have hlt : c < s.heap.objs.size := by
      rcases zip5.mp hcm with rfl | rfl | rfl | rfl | rfl
      · exact Heap.lt_size hz
      · exact Heap.lt_size hTI
      · exact Heap.lt_size hTO
      · exact (listIt X.prog X.w).lt h1
      · exact (tupIt X.prog X.w).lt h2
    rw [L2.upd_ne (Nat.ne_of_lt hlt)]
    exact (hf c hcm).1
  done := by
    intro X hP hw hK hc i pins s σ H E I hf st hg
    subst hP hw hK
    obtain ⟨hz, hTI, ⟨x0, y0, hTO⟩, h1, h2⟩ := st
    obtain ⟨xs, ys, hqx, hqy, hend⟩ := hg
    obtain ⟨its, rv, p, _⟩ := I.list hqx
    obtain ⟨its2, rv2, p2, _⟩ := I.tuple hqy
    have l1 := rv.length
    have l2 := rv2.length
    have he : its.toArray[i]? = none ∨ its2.toArray[i]? = none := by
      rcases hend with q | q
      · exact .inl (by simp; omega)
      · exact .inr (by simp; omega)
    exact next_zipG_end (g1 := listIt X.prog X.w) (g2 := tupIt X.prog X.w) (I.ok.hd hc) D hz hTI hTO h1 h2 p.isList (show s.heap.IsTuple b its2.toArray from p2) he fun h' hk => ⟨rfl, I.turnedL (t' := s.toks) (ch := [z, TI, TO, i1, i2]) (fun c o hb q =>
      hk c o (fun q' => hb (zip5.mpr (.inl q'))) (fun q' => hb (zip5.mpr (.inr (.inr (.inl q'))))) (fun q' => hb (zip5.mpr (.inr (.inr (.inr (.inl q')))))) (fun q' => hb (zip5.mpr (.inr (.inr (.inr (.inr q')))))) q) hf⟩
  self := fun A i s Q E st h => wpAny_pyIter_zip st.1 h
end
/-- zip(l, t) made -/
theorem meets_zipM (l1 l2 : Addr) (xs ys : Array Value) :
    Meets (Builtin.«zip.__new__» ⟨[.type "zip", .ref l1, .ref l2], []⟩) (fun _ R s => s.heap.IsList l1 xs ∧ s.heap.IsTuple l2 ys ∧
      ∀ h4 h5 : Heap, h4 = (((s.heap.push { cls := .type "list_iterator", data := .fields #[.ref l1, .int 0 0] }).push { cls := .type "tuple_iterator", data := .fields #[.ref l2, .int 0 0] }).push { cls := .type "tuple", data := .seq #[.ref s.heap.objs.size, .ref (s.heap.push { cls := .type "list_iterator", data := .fields #[.ref l1, .int 0 0] }).objs.size] }).push { cls := .type "tuple", data := .seq #[.none, .none] } →
        h5 = h4.push { cls := .type "zip", data := .fields #[.none, .bool false, .bool false, .ref ((s.heap.push { cls := .type "list_iterator", data := .fields #[.ref l1, .int 0 0] }).push { cls := .type "tuple_iterator", data := .fields #[.ref l2, .int 0 0] }).objs.size,
          .ref (((s.heap.push { cls := .type "list_iterator", data := .fields #[.ref l1, .int 0 0] }).push { cls := .type "tuple_iterator", data := .fields #[.ref l2, .int 0 0] }).push { cls := .type "tuple", data := .seq #[.ref s.heap.objs.size, .ref (s.heap.push { cls := .type "list_iterator", data := .fields #[.ref l1, .int 0 0] }).objs.size] }).objs.size] } →
        R (.ok (.ret (.ref h4.objs.size))) { s with heap := h5 }) :=
  .of_wp fun prog w A R s h => by
    obtain ⟨hp, g, d, tk, os⟩ := s; obtain ⟨hl1, hl2, h⟩ := h
    have hsub := sub_zip
    have hL1 : Heap.IsList (Shared.heap ⟨hp, g, d, tk, os⟩) l1 xs := hl1
    have hL2 : Heap.IsTuple (Shared.heap ⟨hp.push { cls := .type "list_iterator", data := .fields #[.ref l1, .int 0 0] }, g, d, tk, os⟩) l2 ys := Heap.IsTuple.push hl2 _
    have h' := h _ _ rfl rfl
    wp_walk using wpAny_pyIter_list hL1, wpAny_pyIter_tuple hL2
    exact ⟨_, rfl, h'⟩
section
variable {prog : Program} {w : World} {A : Around} {E : Value → Shared → Prop} {s : Shared}
theorem call_zipM {l1 l2 : Addr} {xs ys : Array Value} {Q : Value → Shared → Prop} (hl1 : s.heap.IsList l1 xs) (hl2 : s.heap.IsTuple l2 ys)
    (h : ∀ h', ZipAt (listIt prog w) (tupIt prog w) (s.heap.objs.size + 4) (s.heap.objs.size + 2) (s.heap.objs.size + 3) s.heap.objs.size (s.heap.objs.size + 1) l1 l2 0 h' → (∀ c o, s.heap.get? c = some o → h'.get? c = some o) → Q (.ref (s.heap.objs.size + 4)) { s with heap := h' }) :
    wpAny (model prog w) A (call (.type "zip") [.ref l1, .ref l2]) Q E s := by
  refine callType_new F.called_zip (by decide) (F.typeCall_zip_2 _ _) (F.newCall_zip_2 _ _) (fun obj => F.args_object_init_3 obj _ _) F.entry_zip_new
    (meets_zipM l1 l2 xs ys) ⟨hl1, hl2, fun h4 h5 e4 e5 => ?_⟩
  have z1 : (s.heap.push { cls := .type "list_iterator", data := .fields #[.ref l1, .int 0 0] }).objs.size = s.heap.objs.size + 1 := Heap.size_push ..
  have z2 : ((s.heap.push { cls := .type "list_iterator", data := .fields #[.ref l1, .int 0 0] }).push { cls := .type "tuple_iterator", data := .fields #[.ref l2, .int 0 0] }).objs.size = s.heap.objs.size + 2 := by rw [Heap.size_push, z1]
  rw [z1] at e4
  have z3 : (((s.heap.push { cls := .type "list_iterator", data := .fields #[.ref l1, .int 0 0] }).push { cls := .type "tuple_iterator", data := .fields #[.ref l2, .int 0 0] }).push { cls := .type "tuple", data := .seq #[.ref s.heap.objs.size, .ref (s.heap.objs.size + 1)] }).objs.size = s.heap.objs.size + 3 := by rw [Heap.size_push, z2]
  have z4 : h4.objs.size = s.heap.objs.size + 4 := by rw [e4, Heap.size_push, z3]
  rw [z1, z2, z3] at e5
  have g5 : IsZip h5 h4.objs.size (s.heap.objs.size + 2) (s.heap.objs.size + 3) .none := by rw [e5]; exact Heap.get?_push_size _ rfl
  have g4 : IsPair h5 (s.heap.objs.size + 3) .none .none := by rw [e5, e4]; exact Heap.get?_push_of_some _ (Heap.get?_push_at z3.symm rfl)
  have g3 : IsPair h5 (s.heap.objs.size + 2) (.ref s.heap.objs.size) (.ref (s.heap.objs.size + 1)) := by rw [e5, e4]; exact Heap.get?_push_of_some _ (Heap.get?_push_of_some _ (Heap.get?_push_at z2.symm rfl))
  have g2 : h5.get? (s.heap.objs.size + 1) = some { cls := .type "tuple_iterator", data := .fields #[.ref l2, .int 0 0] } := by rw [e5, e4]; exact Heap.get?_push_of_some _ (Heap.get?_push_of_some _ (Heap.get?_push_of_some _ (Heap.get?_push_at z1.symm rfl)))
  have g1 : h5.get? s.heap.objs.size = some { cls := .type "list_iterator", data := .fields #[.ref l1, .int 0 0] } := by rw [e5, e4]; exact Heap.get?_push_of_some _ (Heap.get?_push_of_some _ (Heap.get?_push_of_some _ (Heap.get?_push_of_some _ (Heap.get?_push_size _ rfl))))
  rw [z4] at g5 ⊢
  refine ⟨⟨_, g5, rfl⟩, h h5 ⟨g5, g3, ⟨_, _, g4⟩, ⟨_, g1, rfl, rfl⟩, ⟨_, g2, rfl, rfl⟩⟩ fun c o x => ?_⟩
  rw [e5, e4]
  exact Heap.get?_push_of_some _ (Heap.get?_push_of_some _ (Heap.get?_push_of_some _ (Heap.get?_push_of_some _ (Heap.get?_push_of_some _ x))))
end
section
open L2
def iZipM (K : PySem.W.Frag) (ta : TA) : TI := fun σ H R => ta σ H fun vs H1 => ∃ a b xs ys, vs = [.ref a, .ref b] ∧ SqL K H1 a xs ∧ SqT K H1 b ys ∧ R (ItzM K a b) H1
theorem pi_zipM {X : Cx} {e e2 : Expr} {ta : TA} {p pos tpos : Pos} {elts : List Expr} {kk : Nat} (hg : Gl X "zip") (hm : X.mg "zip" = none) (ha : PA X [e, e2] ta)
    (hs : starEach [e, e2] X.env = (false, eval e X.env) :: starEach [e2] X.env := by rfl) (hpl : (backTo pos (starEach [e2] X.env)).any (·.1) = false := by rfl) :
    PI X (.Tuple elts kk tpos) (.Call (.Name "zip" p) [e, e2] [] pos) (iZipM X.K ta) := by
  refine ⟨fun pins s σ H R I h => ?_⟩
  refine Call_ (ld_blt I hg hm PyProof.Rows.boot_zip (PyProof.Rows.callWith_type1 (thn (ha.run pos pins s σ H _ I h) fun us s1 ⟨vs, H1, I1, r1, q1⟩ => ?_) hs hpl))
  obtain ⟨a, b, xs, ys, rfl, hqx, hqy, q⟩ := q1
  cases r1 with
  | cons r rr =>
    cases rr with
    | cons r' rr =>
      cases rr
      cases r
      cases r'
      obtain ⟨its, rv, p1, _⟩ := I1.list hqx
      obtain ⟨its2, rv2, p2, _⟩ := I1.tuple hqy
      obtain ⟨o2, ho2, _⟩ := id p2
      refine call_zipM p1.isList (show s1.heap.IsTuple b its2.toArray from p2) fun h' hz hk => wpAny_pyIter_zip hz.1 ?_
      have I2 : Inv X pins σ H1 { s1 with heap := h' } := I1.kept (t' := s1.toks) hk
      refine ⟨s1.heap.objs.size + 4, [s1.heap.objs.size + 4, s1.heap.objs.size + 2, s1.heap.objs.size + 3, s1.heap.objs.size, s1.heap.objs.size + 1], _, _, H1, rfl, I2, turn_zipM (PySem.W.ktu_apart s1.heap.objs.size a b p1.lt (Heap.lt_size ho2)), hz, fun c hcm => ?_, q⟩
      have hle : s1.heap.objs.size ≤ c := by
        rcases zip5.mp hcm with z | z | z | z | z
        · rw [z]; exact Nat.le_add_right _ _
        · rw [z]; exact Nat.le_add_right _ _
        · rw [z]; exact Nat.le_add_right _ _
        · rw [z]; exact Nat.le_refl _
        · rw [z]; exact Nat.le_add_right _ _
      exact I1.fpOk hle (I1.hok.fresh hle)
theorem k_pi_zipM {K : PySem.W.Frag} {X : Cx} {tg x : Expr} {ta : TA} (e : X.K = K) (h : PI X tg x (iZipM X.K ta)) : PI X tg x (iZipM K ta) := e ▸ h
end
end Z
set_option Elab.async false
set_option linter.all false
set_option maxRecDepth 100000
set_option maxHeartbeats 2000000
/-! Z: several except clauses, each with its name. -/
namespace Z
open PySem PySem.Spec PyProof.Rows L2
abbrev AsTS := Addr → Value → Option Addr → TS
def wAsMany (K : PySem.W.Frag) (Wout : WX) (D : Ends) : List (Value × Nat × AsTS) → WX
  | [] => Wout
  | (c, i, ts) :: r => fun cls d σ H => ∃ b, PySem.W.exmOne K cls c = some b ∧
      (b = true → ∀ a, H a = none → ts a cls d { nx := fun σ' H' => D.nx (σ'.set i none) H', rt := D.rt, bk := fun σ' H' => D.bk (σ'.set i none) H', ct := fun σ' H' => D.ct (σ'.set i none) H' } (σ.set i (some (.ref a))) H) ∧
      (b = false → wAsMany K Wout D r cls d σ H)
inductive HdsAs (X : Cx) : List ExceptHandler → List (Value × Nat × AsTS) → Prop
  | nil : HdsAs X [] []
  | cons {x n : Str} {c : Value} {i : Nat} {ts : AsTS} {b₀ : Stmt} {suite : List Stmt} {np pos' : Pos} {hds : List ExceptHandler} {l : List (Value × Nat × AsTS)} (hi : X.N[i]? = some n) (hln : X.env.kindOf n = some .local) (hc : Names X x c)
      (hsu : ∀ (a : Addr) (oe : Obj) (cls : Value) (d : Option Addr) (pn : List (Addr × Obj)), Zc cls d oe → (∃ vs, oe.data = .fields vs) → PSs (X.suite a ((a, oe) :: pn)) (b₀ :: suite) (ts a cls d)) (r : HdsAs X hds l) :
      HdsAs X (.ExceptHandler (some (.Name x np)) (some n) (b₀ :: suite) pos' :: hds) ((c, i, ts) :: l)
section
variable {X : Cx} {body : List Stmt} {h₀ : ExceptHandler} {hds : List ExceptHandler} {l : List (Value × Nat × AsTS)} {pos : Pos} {tb : WX → TS} {Wout : WX}
theorem ps_try_asMany (hs : X.stack = X.env :: X.outer) (hf : X.env.frame = some X.env.locals) (hN : X.N.Nodup) (tk : Takes X Wout)
    (hb : ∀ (W : WX) (pn : List (Addr × Obj)) (xe : Value → Shared → Prop), Takes (X.tr pn xe) W → PassesOwn (model X.prog X.w) X.A X.env xe → PSs (X.tr pn xe) body (tb W))
    (hh : HdsAs X (h₀ :: hds) l) : PS X (.Try body (h₀ :: hds) [] [] pos) (fun D σ H => tb (wAsMany X.K Wout D l) D σ H) := by
  refine ⟨fun pins s σ H D I h => ?_⟩
  have ok := I.ok
  have hfr : X.A.frames = some (X.env :: X.outer) := by rw [ok.frames, hs]
  refine wpAny_Try_except ?_
  refine wpAny_mono ((hb (wAsMany X.K Wout D l) (X.pn ++ pins) (fun e s₁ => wpAny (model X.prog X.w) X.A (noteFrame e X.env) (fun _ s₂ => wpAny (model X.prog X.w) X.A (setFlight e none) (fun _ s₃ =>
    wpAny (model X.prog X.w) X.A (handleBy e X.env (h₀ :: hds)) (SP X pins D) X.xe s₃) X.xe s₂) X.xe s₁) (fun u s' xx => ?_) PassesOwn.looking).run [] s σ H D (I.toTry _) h) (fun f s1 hsp => ?_) (fun e s1 he => he)
  · obtain ⟨a, B, sI, pins', σ', H', cls, d, rfl, J', nb, up, sky, na, os, ag, w⟩ := xx
    have J : Inv X pins σ' H' sI := J'.ofTry ok
    have sky' : Sky B (X.env :: X.outer) a (Zc cls d) X.env.locals s'.heap := by rw [← hs]; exact sky
    show wpAny (model X.prog X.w) X.A (noteFrame (.ref a) X.env) _ _ _
    refine Sky.land Zc.steady hfr hf sky' fun h3 fl3 up3 => ?_
    have J3 : Inv X pins σ' H' { s' with heap := h3 } := J.landed nb fl3.1 (up.trans up3) os ag
    obtain ⟨oe3, vs3, he3, hz3, hd3⟩ := fl3.there
    have nfr : a ∉ frs (X.env :: X.outer) := fun hm => by
      obtain ⟨_, o', e', hnf⟩ := fl3.2.2.1.mem hm
      rw [he3] at e'; cases e'
      exact hnf _ hd3
    have nL : a ≠ X.env.locals := fun z => nfr (List.mem_filterMap.mpr ⟨X.env, List.mem_cons_self, by rw [hf, z]⟩)
    have nF : a ∉ X.fs := fun hm => by
      obtain ⟨e, he, q⟩ := List.mem_filterMap.mp hm
      exact nfr (List.mem_filterMap.mpr ⟨e, List.mem_cons_of_mem _ he, q⟩)
    have S3 := J3.suite he3 hd3 na nL nF
    have LT : PySem.W.Looks (model X.prog X.w) h3 (typeOf (.ref a)) cls := fun A Q E s k q => wpAny_typeOf_ref (k _ _ he3) (by rw [hz3.1]; exact q)
    clear h hb
    suffices go : ∀ {hds' : List ExceptHandler} {l' : List (Value × Nat × AsTS)}, HdsAs X hds' l' → wAsMany X.K Wout D l' cls d σ' H' →
        wpAny (model X.prog X.w) X.A (handleBy (.ref a) X.env hds') (SP X pins D) X.xe { s' with heap := h3 } from go hh w
    intro hds' l' hk
    induction hk with
    | nil =>
      intro w
      refine wpAny_handleBy_nil ?_
      obtain ⟨k1, k2, k3, oe, vs, T, oT, ts', he, hz, hd, h1, hr⟩ := id fl3
      unfold PySem.passOn
      refine wpAny_bind (wpAny_field he hd h1 ?_)
      rw [if_neg (show ¬ ((Value.ref T == Value.none) = true) from by simp)]
      have fin : wpAny (model X.prog X.w) X.A (setFlight (.ref a) X.env.frame) (fun _ s4 => wpAny (model X.prog X.w) X.A (throw (.ref a) : Sem Flow) (SP X pins D) X.xe s4) X.xe { s' with heap := h3 } := by
        rw [hf]
        refine HandSPX.setFlight_upZ fl3 fun h4 hh4 up4 => wpAny_throw (tk _ _ ?_)
        exact ⟨a, B, sI, pins, σ', H', cls, d, rfl, J, nb, (up.trans up3).trans up4, .inr (.inr (by rw [hs]; exact hh4)), na, os, ag, w⟩
      first
        | exact wpAny_bind (wpAny_pure (wpAny_bind fin))
        | exact wpAny_bind fin
    | @cons x n c i ts b₀ suite np pos' hds2 l2 hi hln hc hsu r ih =>
      intro w
      obtain ⟨b, hb1, hyes, hno⟩ := w
      have hloc : Loc X.env.scope n := .inl hln
      refine wpAny_handleBy_cons (codeAny_handlers_test ?_) (by intro q; cases q)
      have LM := PySem.W.exm_one (M := model X.prog X.w) (J3.kIn) LT hb1
      have test : ∀ {Q : Value → Shared → Prop} {E : Value → Shared → Prop}, Q c { s' with heap := h3 } → wpAny (model X.prog X.w) (X.A.mark (some (.ref a))) (eval (.Name x np) X.env) Q E { s' with heap := h3 } := fun {Q E} q => by
        obtain ⟨hg, hdbg, hm | ⟨hm, hv, hnn⟩⟩ := hc
        · exact ld_glob (X := X.suite a ((a, oe3) :: (X.pn ++ pins))) S3 hg hm q hdbg
        · exact ld_blt (X := X.suite a ((a, oe3) :: (X.pn ++ pins))) S3 hg hm hv q hnn hdbg
      refine test (LM.here ?_)
      cases b with
      | true =>
        refine codeAny_handlers_suite_as ?_
        refine HandSPX.lands_againZ fl3 fun h4 fl4 up4 => ?_
        have J4 : Inv X pins σ' H' { s' with heap := h4 } := J.landed nb fl4.1 ((up.trans up3).trans up4) os ag
        obtain ⟨oe4, vs4, he4, hz4, hd4⟩ := fl4.there
        have S4 := J4.suite he4 hd4 na nL nF
        refine store_ok (X := X.suite a ((a, oe4) :: (X.pn ++ pins))) (v := .ref a) S4 hN hi hloc rfl (fun s5 S5 => ?_) (.inr hln)
        refine wpAny_mono ((hsu a oe4 cls d (X.pn ++ pins) hz4 ⟨_, hd4⟩).run [] s5 _ H' _ S5 (hyes rfl a na)) (fun f s6 hsp => ?_) (fun _ _ z => False.elim z)
        have end_ : ∀ {σ6 : L2.St} {H6 : Hp} {Q : Shared → Prop}, Inv (X.suite a ((a, oe4) :: (X.pn ++ pins))) [] σ6 H6 s6 → (∀ s7, Inv X pins (σ6.set i none) H6 s7 → Q s7) →
            wpAny (model X.prog X.w) X.A (do bindName X.env n .none; unbindBehindTheSuite X.env n pos') (fun _ s7 => Q s7) X.xe s6 := fun {σ6 H6 Q} S6 hq => gone_ok (S6.unsuite ok) hN hi hln hq
        cases f with
        | next =>
          obtain ⟨σ6, H6, S6, q6⟩ := hsp
          exact end_ S6 fun s7 J7 => ⟨_, _, J7, q6⟩
        | brk =>
          obtain ⟨σ6, H6, S6, q6⟩ := hsp
          exact end_ S6 fun s7 J7 => ⟨_, _, J7, q6⟩
        | cont =>
          obtain ⟨σ6, H6, S6, q6⟩ := hsp
          exact end_ S6 fun s7 J7 => ⟨_, _, J7, q6⟩
        | ret u =>
          obtain ⟨v6, σ6, H6, S6, r6, q6⟩ := hsp
          exact end_ S6 fun s7 J7 => ⟨_, _, _, J7, r6, q6⟩
      | false =>
        show wpAny _ X.A (handleBy (.ref a) X.env hds2) _ _ _
        exact ih (hno rfl)
  · cases f with
    | next =>
      obtain ⟨σ', H', J', q⟩ := hsp
      exact wpAny_execs_nil ⟨σ', H', J'.ofTry ok, q⟩
    | brk =>
      obtain ⟨σ', H', J', q⟩ := hsp
      exact ⟨σ', H', J'.ofTry ok, q⟩
    | cont =>
      obtain ⟨σ', H', J', q⟩ := hsp
      exact ⟨σ', H', J'.ofTry ok, q⟩
    | ret u =>
      obtain ⟨v, σ', H', J', r, q⟩ := hsp
      exact ⟨v, σ', H', J'.ofTry ok, r, q⟩
end
end Z
set_option Elab.async false
set_option linter.all false
set_option maxRecDepth 100000
set_option maxHeartbeats 4000000
set_option autoImplicit false
/-! Z: comprehensions over anything that is walked. -/
namespace Z
open PySem L2
open Evl (Ex)
open Dat
/-- an iterator that yields xs one by one and lets the heap grow -/
structure Walks {γ : Type} (J : It) (G : Hp) (xs : List γ) (Y : γ → V → Hp → Prop) : Prop where
  go : ∀ i H, i < xs.length → Ex G H → J.go i H
  stop : ∀ H, Ex G H → J.stop xs.length H
  yld : ∀ i x H v H', xs[i]? = some x → Ex G H → J.yld i H v H' → Ex H H' ∧ Y x v H'
def Grows {γ : Type} (Y : γ → V → Hp → Prop) : Prop := ∀ x v G H, Ex G H → Y x v G → Y x v H
structure EIn {γ : Type} (ti : TI) (σ : L2.St) (H : Hp) (xs : List γ) (Y : γ → V → Hp → Prop) : Prop where
  gr : Grows Y
  run : ∀ H1, Ex H H1 → ∀ R : It → Hp → Prop, (∀ J H2, Ex H1 H2 → Walks J H2 xs Y → R J H2) → ti σ H1 R
section
variable {K : PySem.W.Frag} {α β γ δ : Type} [Dat α] [Dat β] {σ : L2.St} {G H : Hp} {te tl tm : TE} {ti ti1 : TI} {tt : TT} {g : TG} {i k m n : Nat}
theorem gr_rep : Grows fun (x : α) v H => Rep K H v x := fun _ _ _ _ e r => r.mono e
theorem in_list {xs : List α} (h : ER K tl σ H xs) : EIn (iList K tl) σ H xs fun x v H => Rep K H v x := ⟨gr_rep, fun H1 e R q => h H1 e _ fun v H2 e2 r => by
  obtain ⟨a, vs, rfl, s, r⟩ := Rep.list r
  refine ⟨a, rfl, ⟨vs, s⟩, q _ H2 e2 ⟨fun i H hi e => ?_, fun H e => ⟨vs, Evl.ex_l e s, by rw [r.len]; exact Nat.le_refl _⟩, fun i x H v H' hx e y => ?_⟩⟩
  · exact ⟨vs, vs[i]'(by rw [r.len]; exact hi), Evl.ex_l e s, by simp [r.len, hi]⟩
  · obtain ⟨rfl, hy⟩ := y
    obtain ⟨v', hv', rv⟩ := r.get hx
    have := hy vs (Evl.ex_l e s)
    rw [hv'] at this
    cases this
    exact ⟨Ex.refl _, rv.mono e⟩⟩
theorem in_tup {xs : Tp α} (h : ER K tl σ H xs) : EIn (iTup K tl) σ H (show List α from xs) fun x v H => Rep K H v x := ⟨gr_rep, fun H1 e R q => h H1 e _ fun v H2 e2 r => by
  obtain ⟨a, vs, rfl, s, r⟩ := Rep.tup r
  refine ⟨a, rfl, ⟨vs, s⟩, q _ H2 e2 ⟨fun i H hi e => ?_, fun H e => ⟨vs, Evl.ex_t e s, by rw [r.len]; exact Nat.le_refl _⟩, fun i x H v H' hx e y => ?_⟩⟩
  · have hi : i < List.length xs := hi
    exact ⟨vs, vs[i]'(by rw [r.len]; exact hi), Evl.ex_t e s, by simp [r.len, hi]⟩
  · obtain ⟨rfl, hy⟩ := y
    obtain ⟨v', hv', rv⟩ := r.get hx
    have := hy vs (Evl.ex_t e s)
    rw [hv'] at this
    cases this
    exact ⟨Ex.refl _, rv.mono e⟩⟩
theorem in_str {z : Str} (h : ER K tl σ H z) : EIn (iStr tl) σ H z.cps.toList fun c v _ => v = .str ⟨#[c]⟩ := ⟨fun _ _ _ _ _ r => r, fun H1 e R q => h H1 e _ fun v H2 e2 r => by
  obtain rfl := Rep.str r
  refine ⟨z, rfl, q _ H2 e2 ⟨fun i H hi e => by rw [Array.length_toList] at hi; exact hi, fun H e => by rw [Array.length_toList]; exact Nat.le_refl _, fun i x H v H' hx e y => ?_⟩⟩
  obtain ⟨rfl, c, hc, rfl⟩ := y
  rw [Array.getElem?_toList, hc] at hx
  cases hx
  exact ⟨Ex.refl _, rfl⟩⟩
theorem in_rng {nn : Int} (h : ER K tl σ H nn) (h0 : -(2 ^ 62) ≤ nn) (h1 : nn < 2 ^ 62) : EIn (iRng1 (tCons tl tNil)) σ H (List.range nn.toNat) fun k v _ => v = .int (k : Nat) := ⟨fun _ _ _ _ _ r => r, fun H1 e R q => h.evI H1 e _ fun H2 e2 => by
  refine ⟨nn, rfl, h0, h1, q _ H2 e2 ⟨fun i H hi e => by rw [List.length_range] at hi; exact hi, fun H e => by rw [List.length_range]; exact Nat.le_refl _, fun i x H v H' hx e y => ?_⟩⟩
  obtain ⟨rfl, rfl⟩ := y
  obtain ⟨hi, rfl⟩ := List.getElem?_eq_some_iff.mp hx
  rw [List.getElem_range, Int.zero_add]
  exact ⟨Ex.refl _, rfl⟩⟩
/-- a pair that comes by: its items -/
def Y2 (K : PySem.W.Frag) (A B : γ → V → Hp → Prop) : γ → V → Hp → Prop := fun x v H => ∃ T u w, v = .ref T ∧ SqT K H T [u, w] ∧ A x u H ∧ B x w H
theorem gr_Y2 {A B : γ → V → Hp → Prop} (hA : Grows A) (hB : Grows B) : Grows (Y2 K A B) := fun x v G H e ⟨T, u, w, h1, h2, h3, h4⟩ => ⟨T, u, w, h1, Evl.ex_t e h2, hA _ _ _ _ e h3, hB _ _ _ _ e h4⟩
theorem in_enum {xs : List α} (h : ER K tl σ H xs) : EIn (iEnum K (tCons tl tNil)) σ H ((List.range xs.length).zip xs) (Y2 K (fun p v _ => v = .int (p.1 : Nat)) fun p v H => Rep K H v p.2) := ⟨gr_Y2 (fun _ _ _ _ _ r => r) fun _ _ _ _ e r => r.mono e, fun H1 e R q => h H1 e _ fun v H2 e2 r => by
  obtain ⟨a, vs, rfl, s, r⟩ := Rep.list r
  have hl : ((List.range xs.length).zip xs).length = xs.length := by rw [List.length_zip, List.length_range, Nat.min_self]
  refine ⟨a, vs, rfl, s, q _ H2 e2 ⟨fun i H hi e => ?_, fun H e => ⟨vs, Evl.ex_l e s, by rw [r.len, hl]; exact Nat.le_refl _⟩, fun i x H v H' hx e y => ?_⟩⟩
  · rw [hl] at hi
    exact ⟨vs, vs[i]'(by rw [r.len]; exact hi), Evl.ex_l e s, by simp [r.len, hi]⟩
  · obtain ⟨T, x', rfl, hT, rfl, hy⟩ := y
    obtain ⟨h1, h2⟩ := List.getElem?_zip_eq_some.mp hx
    obtain ⟨hi, hi'⟩ := List.getElem?_eq_some_iff.mp h1
    rw [List.getElem_range] at hi'
    obtain ⟨v', hv', rv⟩ := r.get h2
    have := hy vs (Evl.ex_l e s)
    rw [hv'] at this
    cases this
    exact ⟨Evl.Ex.new hT, T, _, _, rfl, SqT.of upd_same, by rw [hi'], rv.mono (e.trans (Evl.Ex.new hT))⟩⟩
theorem in_zipM {xs : List α} {ys : Tp β} (h : ER K tl σ H xs) (h' : ER K tm σ H ys) : EIn (iZipM K (tCons tl (tCons tm tNil))) σ H (xs.zip (show List β from ys)) (Y2 K (fun p v H => Rep K H v p.1) fun p v H => Rep K H v p.2) := ⟨gr_Y2 (fun _ _ _ _ e r => r.mono e) fun _ _ _ _ e r => r.mono e, fun H1 e R q => h H1 e _ fun v H2 e2 r => h' H2 (e.trans e2) _ fun v' H3 e3 r' => by
  obtain ⟨a, vs, rfl, s, r⟩ := Rep.list (r.mono e3)
  obtain ⟨b, ws, rfl, s', r'⟩ := Rep.tup r'
  have l1 := r.len
  have l2 : ws.length = List.length ys := r'.len
  refine ⟨a, b, vs, ws, rfl, s, s', q _ H3 (e2.trans e3) ⟨fun i H hi e => ?_, fun H e => ⟨vs, ws, Evl.ex_l e s, Evl.ex_t e s', ?_⟩, fun i x H v H' hx e y => ?_⟩⟩
  · rw [List.length_zip] at hi
    have : min xs.length (List.length ys) ≤ xs.length := Nat.min_le_left _ _
    have : min xs.length (List.length ys) ≤ List.length ys := Nat.min_le_right _ _
    have hi : i < min xs.length (List.length ys) := hi
    exact ⟨vs, ws, vs[i]'(by omega), ws[i]'(by omega), Evl.ex_l e s, Evl.ex_t e s', List.getElem?_eq_getElem _, List.getElem?_eq_getElem _⟩
  · rw [List.length_zip, l1, l2]
    show xs.length ≤ min xs.length (List.length ys) ∨ List.length ys ≤ min xs.length (List.length ys)
    omega
  · obtain ⟨T, x1, x2, rfl, hT, rfl, hy1, hy2⟩ := y
    obtain ⟨h1, h2⟩ := List.getElem?_zip_eq_some.mp hx
    obtain ⟨v1, hv1, rv1⟩ := r.get h1
    obtain ⟨v2, hv2, rv2⟩ := r'.get h2
    have z1 := hy1 vs (Evl.ex_l e s)
    rw [hv1] at z1
    cases z1
    have z2 := hy2 ws (Evl.ex_t e s')
    rw [hv2] at z2
    cases z2
    exact ⟨Evl.Ex.new hT, T, _, _, rfl, SqT.of upd_same, rv1.mono (e.trans (Evl.Ex.new hT)), rv2.mono (e.trans (Evl.Ex.new hT))⟩⟩
/-- pairs in a list -/
theorem gr_pair {α β : Type} [Dat α] [Dat β] : Grows (Y2 K (fun (p : α × β) v H => Rep K H v p.1) fun p v H => Rep K H v p.2) := gr_Y2 (fun _ _ _ _ e r => r.mono e) fun _ _ _ _ e r => r.mono e
theorem EIn.mono {xs : List γ} {Y Y' : γ → V → Hp → Prop} (h : EIn ti σ H xs Y) (g : Grows Y') (hy : ∀ x v H, Y x v H → Y' x v H) : EIn ti σ H xs Y' := ⟨g, fun H1 e R q => h.run H1 e R fun J H2 e2 W => q J H2 e2 ⟨W.go, W.stop, fun i x H v H' hx e y => ⟨(W.yld i x H v H' hx e y).1, hy _ _ _ (W.yld i x H v H' hx e y).2⟩⟩⟩
theorem EIn.pairs {α β : Type} [Dat α] [Dat β] {xs : List (α × β)} (h : EIn ti σ H xs fun x v H => Rep K H v x) : EIn ti σ H xs (Y2 K (fun (p : α × β) v H => Rep K H v p.1) fun p v H => Rep K H v p.2) := h.mono gr_pair fun x v H r => by
  obtain ⟨a, u, w, rfl, s, r1, r2⟩ := Rep.pair r
  exact ⟨a, u, w, rfl, s, r1, r2⟩
/-! ### where the target's names lead -/
structure GoesTo {γ : Type} (g : TG) (τ : L2.St) (vs : List Nat) (Y : γ → V → Hp → Prop) (S : γ → L2.St → Hp → Prop) : Prop where
  run : ∀ x v H (R : L2.St → Hp → Prop), Y x v H → (∀ σ2, S x σ2 H → R σ2 H) → g v τ H R
  gr : ∀ x σ2 G H, Ex G H → S x σ2 G → S x σ2 H
  wi : ∀ x σ2 H, S x σ2 H → wipe σ2 vs = wipe τ vs
def SN (i : Nat) (τ : L2.St) (Y : γ → V → Hp → Prop) : γ → L2.St → Hp → Prop := fun x σ2 H => ∃ v, σ2 = τ.set i (some v) ∧ Y x v H
theorem g_name {τ : L2.St} {Y : γ → V → Hp → Prop} (hY : Grows Y) : GoesTo (gName i) τ [i] Y (SN i τ Y) := ⟨fun x v H R y q => q _ ⟨v, rfl, y⟩, fun x σ2 G H e ⟨v, h1, h2⟩ => ⟨v, h1, hY _ _ _ _ e h2⟩, fun x σ2 H ⟨v, h1, h2⟩ => by
  rw [h1]
  show ((τ.set i (some v)).set i none) = τ.set i none
  rw [List.set_set]⟩
def SP (m n : Nat) (τ : L2.St) (A B : γ → V → Hp → Prop) : γ → L2.St → Hp → Prop := fun x σ2 H => ∃ u w, σ2 = (τ.set m (some u)).set n (some w) ∧ A x u H ∧ B x w H
theorem wipe2' {τ : L2.St} (hmn : m ≠ n) (v u : Option V) : wipe ((τ.set m v).set n u) [m, n] = wipe τ [m, n] := by
  have e : ∀ τ : L2.St, wipe τ [m, n] = (τ.set n none).set m none := fun τ => by first | rfl | (show (τ.set m none).set n none = _; exact List.set_comm none none hmn)
  rw [e, e]
  apply List.ext_getElem?
  intro i
  simp only [List.getElem?_set, List.length_set]
  split
  · rfl
  · split <;> rfl
theorem g_two {τ : L2.St} {A B : γ → V → Hp → Prop} (hmn : m ≠ n) (hA : Grows A) (hB : Grows B) : GoesTo (gTup K 2 (gCons (gName m) (gCons (gName n) gNil))) τ [m, n] (Y2 K A B) (SP m n τ A B) :=
  ⟨fun x v H R ⟨T, u, w, h1, h2, h3, h4⟩ q => ⟨T, _, h1, h2, rfl, _, _, rfl, _, _, rfl, rfl, q _ ⟨u, w, rfl, h3, h4⟩⟩, fun x σ2 G H e ⟨u, w, h1, h2, h3⟩ => ⟨u, w, h1, hA _ _ _ _ e h2, hB _ _ _ _ e h3⟩, fun x σ2 H ⟨u, w, h1, h2, h3⟩ => by
  rw [h1]
  exact wipe2' hmn _ _⟩
theorem wipe_wipe (vs : List Nat) : wipe (wipe σ vs) vs = wipe σ vs := by
  have set_none : ∀ (ws : List Nat) (τ : L2.St) (a : Nat), wipe (τ.set a none) ws = (wipe τ ws).set a none := fun ws => by
    induction ws with
    | nil => intro τ a; rfl
    | cons b ws ih =>
      intro τ a
      show (wipe (τ.set a none) ws).set b none = ((wipe τ ws).set b none).set a none
      rw [ih]
      by_cases hab : a = b
      · subst hab
        rfl
      · exact List.set_comm none none hab
  have idem : ∀ (ws : List Nat) (τ : L2.St), wipe (wipe τ ws) ws = wipe τ ws := fun ws => by
    induction ws with
    | nil => intro τ; rfl
    | cons b ws ih =>
      intro τ
      show (wipe ((wipe τ ws).set b none) ws).set b none = (wipe τ ws).set b none
      rw [set_none, ih, List.set_set]
  exact idem vs σ
/-! ### [f(..) for .. in .. if p(..)] -/
variable {xs : List γ} {Y : γ → V → Hp → Prop} {S : γ → L2.St → Hp → Prop} {p : γ → Bool} {vs : List Nat}
theorem el_gen [Flat β] {f : γ → β} (h : EIn ti σ H xs Y) (hg : GoesTo g (wipe σ vs) vs Y S) (ht : ∀ x σ2 H2, x ∈ xs → Ex H H2 → S x σ2 H2 → ET K tt σ2 H2 (p x))
    (he : ∀ x σ2 H2, x ∈ xs → p x = true → Ex H H2 → S x σ2 H2 → ER K te σ2 H2 (f x)) (hz : xs.length ≤ 100000) : EL K (tLc ti g tt te vs) σ H ((xs.filter p).map f) := fun H0 e0 Q q => h.run H0 e0 _ fun J H1 e1 W => by
  refine fun D hD => ⟨fun j m H' => m = xs.length - j ∧ j ≤ xs.length ∧ Ex H1 H' ∧ Own K H' D (((xs.take j).filter p).map f), ⟨_, rfl, Nat.zero_le _, Evl.Ex.new hD, by simpa using Own.nil⟩, ?_⟩
  rintro j m H' ⟨rfl, hj, eH, o⟩
  by_cases hlt : j < xs.length
  · refine .inr ⟨W.go j H' hlt eH, fun H3 => Ex H1 H3 ∧ Own K H3 D (((xs.take (j + 1)).filter p).map f), fun H3 z => ⟨_, by omega, rfl, hlt, z⟩, fun v H2 hy => ?_⟩
    have hx : xs[j]? = some xs[j] := List.getElem?_eq_getElem hlt
    obtain ⟨e2, y⟩ := W.yld j xs[j] H' v H2 hx eH hy
    have hm := List.mem_of_getElem? hx
    have et : xs.take (j + 1) = xs.take j ++ [xs[j]] := by rw [List.take_succ, hx]; rfl
    refine hg.run _ v H2 _ y fun σ2 s2 => ⟨(hg.wi _ _ _ s2).trans (wipe_wipe vs), ?_⟩
    have e02 := e0.trans (e1.trans (eH.trans e2))
    refine ht _ σ2 H2 hm e02 s2 H2 (Ex.refl _) _ fun H3 e3 => ?_
    cases hp : p xs[j] with
    | false =>
      refine (if_neg Bool.false_ne_true).mpr ⟨eH.trans (e2.trans e3), ?_⟩
      rw [et, List.filter_append, List.filter_cons_of_neg (by simp [hp]), List.filter_nil, List.append_nil]
      exact o.mono (e2.trans e3)
    | true =>
      refine (if_pos rfl).mpr (he _ σ2 H3 hm hp (e02.trans e3) (hg.gr _ _ _ _ e3 s2) H3 (Ex.refl _) _ fun w H4 e4 rw' => ?_)
      obtain ⟨acc, h1, r1⟩ := (o.mono (e2.trans (e3.trans e4))).ex
      refine ⟨acc, h1, Evl.sz_lt ?_, ex_mut (eH.trans (e2.trans (e3.trans e4))) hD, acc ++ [w], upd_same, ?_⟩
      · rw [r1.len, List.length_map]
        have := List.length_filter_le p (xs.take j)
        rw [List.length_take] at this
        omega
      · rw [cut_upd, et, List.filter_append, List.filter_cons_of_pos (by simp [hp]), List.filter_nil, List.map_append]
        exact r1.append (Reps.cons (rw'.imm (Tups.cut h1)) reps_nil)
  · have : j = xs.length := by omega
    subst this
    rw [List.take_length] at o
    exact .inl ⟨W.stop H' eH, q D H' (fresh_back e1 hD) (e1.trans eH) o⟩
theorem el_genA [Flat β] {f : γ → β} (h : EIn ti σ H xs Y) (hg : GoesTo g (wipe σ vs) vs Y S)
    (he : ∀ x σ2 H2, x ∈ xs → Ex H H2 → S x σ2 H2 → ER K te σ2 H2 (f x)) (hz : xs.length ≤ 100000) : EL K (tLc ti g tYes te vs) σ H (xs.map f) := by
  have := el_gen (p := fun _ => true) (tt := tYes) h hg (fun _ _ _ _ _ _ H1 _ Q q => q H1 (Ex.refl _)) (fun x σ2 H2 a _ b c => he x σ2 H2 a b c) hz
  rwa [List.filter_eq_self.mpr (fun _ _ => rfl)] at this
/-- a value that stands without any list that stood before -/
def EF (K : PySem.W.Frag) {α : Type} [Dat α] (te : TE) (σ : L2.St) (H : Hp) (x : α) : Prop := ∀ H1, Ex H H1 → ∀ Q : VK, (∀ v H2, Ex H1 H2 → (∀ D, (∃ o, H1 D = some (.lst o)) → Rep K (Z.cut H2 D) v x) → Q v H2) → te σ H1 Q
theorem EL.ef [Flat β] {x : List β} (h : EL K te σ H x) : EF K te σ H x := fun H1 e Q q => h H1 e Q fun p H2 hp e2 o => q _ H2 e2 fun D ⟨ws, hD⟩ => (o.cut (e2 _ _ hD) fun z => by rw [z, hp] at hD; cases hD).rep
/-- .. whose items are new -/
theorem el_genF {f : γ → β} (h : EIn ti σ H xs Y) (hg : GoesTo g (wipe σ vs) vs Y S) (ht : ∀ x σ2 H2, x ∈ xs → Ex H H2 → S x σ2 H2 → ET K tt σ2 H2 (p x))
    (he : ∀ x σ2 H2, x ∈ xs → p x = true → Ex H H2 → S x σ2 H2 → EF K te σ2 H2 (f x)) (hz : xs.length ≤ 100000) : EL K (tLc ti g tt te vs) σ H ((xs.filter p).map f) := fun H0 e0 Q q => h.run H0 e0 _ fun J H1 e1 W => by
  refine fun D hD => ⟨fun j m H' => m = xs.length - j ∧ j ≤ xs.length ∧ Ex H1 H' ∧ Own K H' D (((xs.take j).filter p).map f), ⟨_, rfl, Nat.zero_le _, Evl.Ex.new hD, by simpa using Own.nil⟩, ?_⟩
  rintro j m H' ⟨rfl, hj, eH, o⟩
  by_cases hlt : j < xs.length
  · refine .inr ⟨W.go j H' hlt eH, fun H3 => Ex H1 H3 ∧ Own K H3 D (((xs.take (j + 1)).filter p).map f), fun H3 z => ⟨_, by omega, rfl, hlt, z⟩, fun v H2 hy => ?_⟩
    have hx : xs[j]? = some xs[j] := List.getElem?_eq_getElem hlt
    obtain ⟨e2, y⟩ := W.yld j xs[j] H' v H2 hx eH hy
    have hm := List.mem_of_getElem? hx
    have et : xs.take (j + 1) = xs.take j ++ [xs[j]] := by rw [List.take_succ, hx]; rfl
    refine hg.run _ v H2 _ y fun σ2 s2 => ⟨(hg.wi _ _ _ s2).trans (wipe_wipe vs), ?_⟩
    have e02 := e0.trans (e1.trans (eH.trans e2))
    refine ht _ σ2 H2 hm e02 s2 H2 (Ex.refl _) _ fun H3 e3 => ?_
    cases hp : p xs[j] with
    | false =>
      refine (if_neg Bool.false_ne_true).mpr ⟨eH.trans (e2.trans e3), ?_⟩
      rw [et, List.filter_append, List.filter_cons_of_neg (by simp [hp]), List.filter_nil, List.append_nil]
      exact o.mono (e2.trans e3)
    | true =>
      refine (if_pos rfl).mpr (he _ σ2 H3 hm hp (e02.trans e3) (hg.gr _ _ _ _ e3 s2) H3 (Ex.refl _) _ fun w H4 e4 rw' => ?_)
      obtain ⟨acc, h1, r1⟩ := (o.mono (e2.trans (e3.trans e4))).ex
      have hD3 : ∃ a3, H3 D = some (.lst a3) := (o.mono (e2.trans e3)).at
      refine ⟨acc, h1, Evl.sz_lt ?_, ex_mut (eH.trans (e2.trans (e3.trans e4))) hD, acc ++ [w], upd_same, ?_⟩
      · rw [r1.len, List.length_map]
        have := List.length_filter_le p (xs.take j)
        rw [List.length_take] at this
        omega
      · rw [cut_upd, et, List.filter_append, List.filter_cons_of_pos (by simp [hp]), List.filter_nil, List.map_append]
        exact r1.append (Reps.cons (rw' D hD3) reps_nil)
  · have : j = xs.length := by omega
    subst this
    rw [List.take_length] at o
    exact .inl ⟨W.stop H' eH, q D H' (fresh_back e1 hD) (e1.trans eH) o⟩
/-- .. whose items are new lists -/
theorem el_genL [Flat β] {f : γ → List β} (h : EIn ti σ H xs Y) (hg : GoesTo g (wipe σ vs) vs Y S) (ht : ∀ x σ2 H2, x ∈ xs → Ex H H2 → S x σ2 H2 → ET K tt σ2 H2 (p x))
    (he : ∀ x σ2 H2, x ∈ xs → p x = true → Ex H H2 → S x σ2 H2 → EL K te σ2 H2 (f x)) (hz : xs.length ≤ 100000) : EL K (tLc ti g tt te vs) σ H ((xs.filter p).map f) := el_genF h hg ht (fun x σ2 H2 a b c d => (he x σ2 H2 a b c d).ef) hz
theorem el_genLA [Flat β] {f : γ → List β} (h : EIn ti σ H xs Y) (hg : GoesTo g (wipe σ vs) vs Y S)
    (he : ∀ x σ2 H2, x ∈ xs → Ex H H2 → S x σ2 H2 → EL K te σ2 H2 (f x)) (hz : xs.length ≤ 100000) : EL K (tLc ti g tYes te vs) σ H (xs.map f) := by
  have := el_genL (p := fun _ => true) (tt := tYes) h hg (fun _ _ _ _ _ _ H1 _ Q q => q H1 (Ex.refl _)) (fun x σ2 H2 a _ b c => he x σ2 H2 a b c) hz
  rwa [List.filter_eq_self.mpr (fun _ _ => rfl)] at this
theorem el_genFA {f : γ → β} (h : EIn ti σ H xs Y) (hg : GoesTo g (wipe σ vs) vs Y S)
    (he : ∀ x σ2 H2, x ∈ xs → Ex H H2 → S x σ2 H2 → EF K te σ2 H2 (f x)) (hz : xs.length ≤ 100000) : EL K (tLc ti g tYes te vs) σ H (xs.map f) := by
  have := el_genF (p := fun _ => true) (tt := tYes) h hg (fun _ _ _ _ _ _ H1 _ Q q => q H1 (Ex.refl _)) (fun x σ2 H2 a _ b c => he x σ2 H2 a b c) hz
  rwa [List.filter_eq_self.mpr (fun _ _ => rfl)] at this
/-- the same, and the yields stay what they are while lists change -/
structure WalksT {γ : Type} (J : It) (G : Hp) (xs : List γ) (Y : γ → V → Hp → Prop) : Prop where
  go : ∀ i H, i < xs.length → Tups G H → J.go i H
  stop : ∀ H, Tups G H → J.stop xs.length H
  yld : ∀ i x H v H', xs[i]? = some x → Tups G H → J.yld i H v H' → Ex H H' ∧ Y x v H'
def GrowsT {γ : Type} (Y : γ → V → Hp → Prop) : Prop := ∀ x v G H, Tups G H → Y x v G → Y x v H
structure EInT {γ : Type} (ti : TI) (σ : L2.St) (H : Hp) (xs : List γ) (Y : γ → V → Hp → Prop) : Prop where
  run : ∀ H1, Ex H H1 → ∀ R : It → Hp → Prop, (∀ J H2, Ex H1 H2 → WalksT J H2 xs Y → R J H2) → ti σ H1 R
theorem grT_rep [Flat α] : GrowsT fun (x : α) v H => Rep K H v x := fun _ _ _ _ e r => r.imm e
theorem in_tupT [Flat α] {xs : Tp α} (h : ER K tl σ H xs) : EInT (iTup K tl) σ H (show List α from xs) fun x v H => Rep K H v x := ⟨fun H1 e R q => h H1 e _ fun v H2 e2 r => by
  obtain ⟨a, vs, rfl, s, r⟩ := Rep.tupP r
  refine ⟨a, rfl, ⟨vs, SqT.of s⟩, q _ H2 e2 ⟨fun i H hi e => ?_, fun H e => ⟨vs, SqT.of (e _ _ s), by rw [r.len]; exact Nat.le_refl _⟩, fun i x H v H' hx e y => ?_⟩⟩
  · have hi : i < List.length xs := hi
    exact ⟨vs, vs[i]'(by rw [r.len]; exact hi), SqT.of (e _ _ s), by simp [r.len, hi]⟩
  · obtain ⟨rfl, hy⟩ := y
    obtain ⟨v', hv', rv⟩ := r.get hx
    have := hy vs (SqT.of (e _ _ s))
    rw [hv'] at this
    cases this
    exact ⟨Ex.refl _, rv.imm e⟩⟩
/-- [f(x, y) for x in xs for y in ys(x)] -/
theorem el_gen2 [Flat β] {xs : List γ} {ys : γ → List δ} {Y : γ → V → Hp → Prop} {Y1 : δ → V → Hp → Prop} {f : γ → δ → β} (h : EIn ti σ H xs Y) (hY : GrowsT Y)
    (h1 : ∀ x v H2, x ∈ xs → Ex H H2 → Y x v H2 → EInT ti1 ((wipe σ [i, k]).set i (some v)) H2 (ys x) Y1)
    (he : ∀ x v y u H2, x ∈ xs → y ∈ ys x → Ex H H2 → Y x v H2 → Y1 y u H2 → ER K te ((wipe ((wipe σ [i, k]).set i (some v)) [k]).set k (some u)) H2 (f x y)) (hik : i ≠ k)
    (hz : (xs.flatMap fun x => (ys x).map (f x)).length ≤ 100000) : EL K (tLc2 ti (gName i) tYes ti1 (gName k) tYes te [i, k] [k]) σ H (xs.flatMap fun x => (ys x).map (f x)) := fun H0 e0 Q q => h.run H0 e0 _ fun J H1 e1 W => by
  have hle : ∀ j a x, xs[j]? = some x → (((xs.take j).flatMap fun x => (ys x).map (f x)) ++ ((ys x).take a).map (f x)).length ≤ (xs.flatMap fun x => (ys x).map (f x)).length := fun j a x hx => by
    have e : xs = xs.take j ++ xs.drop j := (List.take_append_drop j xs).symm
    conv => rhs; rw [e, List.flatMap_append]
    rw [List.length_append, List.length_append]
    refine Nat.add_le_add_left ?_ _
    have hl := (List.getElem?_eq_some_iff.mp hx).1
    have : xs.drop j = x :: xs.drop (j + 1) := by
      rw [List.drop_eq_getElem_cons hl, (List.getElem?_eq_some_iff.mp hx).2]
    rw [this, List.flatMap_cons, List.length_append, List.length_map, List.length_map, List.length_take]
    omega
  have hw1 : ∀ v, wipe ((wipe σ [i, k]).set i (some v)) [i, k] = wipe σ [i, k] := fun v => by
    have := wipe2' (τ := wipe σ [i, k]) hik (some v) none
    have e : ((wipe σ [i, k]).set i (some v)).set k none = (wipe σ [i, k]).set i (some v) := by
      show ((((σ.set k none).set i none).set i (some v)).set k none) = ((σ.set k none).set i none).set i (some v)
      rw [List.set_set, List.set_comm (some v) none hik, List.set_set]
    rw [e] at this
    rw [this]
    exact wipe_wipe _
  refine fun D hD => ⟨fun j m H' => m = xs.length - j ∧ j ≤ xs.length ∧ Ex H1 H' ∧ Own K H' D ((xs.take j).flatMap fun x => (ys x).map (f x)), ⟨_, rfl, Nat.zero_le _, Evl.Ex.new hD, by simpa using Own.nil⟩, ?_⟩
  rintro j m H' ⟨rfl, hj, eH, o⟩
  by_cases hlt : j < xs.length
  · obtain ⟨x, hx⟩ : ∃ x, xs[j]? = some x := ⟨_, List.getElem?_eq_getElem hlt⟩
    refine .inr ⟨W.go j H' hlt eH, fun H3 => Ex H1 H3 ∧ Own K H3 D ((xs.take (j + 1)).flatMap fun x => (ys x).map (f x)), fun H3 z => ⟨_, by omega, rfl, hlt, z⟩, fun v H2 hy => ?_⟩
    obtain ⟨e2, y⟩ := W.yld j x H' v H2 hx eH hy
    have hm := List.mem_of_getElem? hx
    have et : xs.take (j + 1) = xs.take j ++ [x] := by rw [List.take_succ, hx]; rfl
    refine ⟨hw1 v, ?_⟩
    have e02 := e0.trans (e1.trans (eH.trans e2))
    refine (h1 x v H2 hm e02 y).run H2 (Ex.refl _) _ fun J1 H4 e4 W1 => ?_
    refine ⟨fun a b H5 => b = (ys x).length - a ∧ a ≤ (ys x).length ∧ Ex H1 H5 ∧ Tups H4 H5 ∧ Own K H5 D (((xs.take j).flatMap fun x => (ys x).map (f x)) ++ ((ys x).take a).map (f x)), ⟨_, rfl, Nat.zero_le _, eH.trans (e2.trans e4), fun _ _ z => z, by simpa using o.mono (e2.trans e4)⟩, ?_⟩
    rintro a b H5 ⟨rfl, ha, e5, t5, o5⟩
    by_cases hlt1 : a < (ys x).length
    · obtain ⟨z, hx1⟩ : ∃ z, (ys x)[a]? = some z := ⟨_, List.getElem?_eq_getElem hlt1⟩
      refine .inr ⟨W1.go a H5 hlt1 t5, fun H6 => Ex H1 H6 ∧ Tups H4 H6 ∧ Own K H6 D (((xs.take j).flatMap fun x => (ys x).map (f x)) ++ ((ys x).take (a + 1)).map (f x)), fun H6 z => ⟨_, by omega, rfl, hlt1, z⟩, fun u H6 hy1 => ?_⟩
      obtain ⟨e6, y1⟩ := W1.yld a z H5 u H6 hx1 t5 hy1
      have hm1 := List.mem_of_getElem? hx1
      have et1 : (ys x).take (a + 1) = (ys x).take a ++ [z] := by rw [List.take_succ, hx1]; rfl
      refine ⟨wipe1 _, ?_⟩
      refine he x v z u H6 hm hm1 (e0.trans (e1.trans (e5.trans e6))) (hY _ _ _ _ ((Tups.ex e4).trans (t5.trans (Tups.ex e6))) y) y1 H6 (Ex.refl _) _ fun w H7 e7 rw' => ?_
      obtain ⟨acc, g1, r1⟩ := (o5.mono (e6.trans e7)).ex
      have hlen := hle j (a + 1) x hx
      rw [et1, List.map_append, ← List.append_assoc, List.length_append] at hlen
      refine ⟨acc, g1, Evl.sz_lt ?_, ex_mut (e5.trans (e6.trans e7)) hD, t5.trans ((Tups.ex (e6.trans e7)).trans (Tups.upd g1)), acc ++ [w], upd_same, ?_⟩
      · rw [r1.len]
        simp only [List.map_cons, List.map_nil, List.length_singleton] at hlen
        omega
      · rw [cut_upd, et1, List.map_append, ← List.append_assoc]
        exact r1.append (Reps.cons (rw'.imm (Tups.cut g1)) reps_nil)
    · have : a = (ys x).length := by omega
      subst this
      rw [List.take_length] at o5
      refine .inl ⟨W1.stop H5 t5, e5, ?_⟩
      rw [et, List.flatMap_append]
      simpa using o5
  · have : j = xs.length := by omega
    subst this
    rw [List.take_length] at o
    exact .inl ⟨W.stop H' eH, q D H' (fresh_back e1 hD) (e1.trans eH) o⟩
end
end Z
set_option Elab.async false
set_option linter.all false
set_option maxRecDepth 100000
set_option maxHeartbeats 4000000
set_option autoImplicit false
/-! Z: texts, chains of comparisons, heaps without a list, objects in tuples. -/
namespace Z
open PySem L2
open Evl (Ex)
open Dat
section
variable {K : PySem.W.Frag} {α β : Type} [Dat α] [Dat β] {σ : L2.St} {G H : Hp} {te ta tb tc : TE} {i j k : Int}
theorem er_lenS {z : Str} (h : ER K ta σ H z) (hz : z.length ≤ sizeLine) : ER K (tCB (fun xs H Q => ∃ z, xs = [.str z] ∧ z.length ≤ sizeLine ∧ Q (.int z.length) H) (tCons ta tNil)) σ H (z.length : Int) := fun H1 e Q q => h.evS H1 e _ fun H2 e2 =>
  ⟨z, rfl, hz, q _ H2 e2 (rep_int _)⟩
theorem er_inS {c : Nat} {z : Str} (h : ER K ta σ H (⟨#[c]⟩ : Str)) (h' : ER K tb σ H z) : ER K (tOp (fun x y H Q => ∃ (c : Nat) (z : Str), x = .str ⟨#[c]⟩ ∧ y = .str z ∧ Q (.bl (decide (c ∈ z.cps.toList))) H) ta tb) σ H (decide (c ∈ z.cps.toList)) := fun H1 e Q q =>
  h.evS H1 e _ fun H2 e2 => h'.evS H2 (e.trans e2) _ fun H3 e3 => ⟨c, z, rfl, rfl, q _ H3 (e2.trans e3) (rep_bool _)⟩
theorem er_ixS {c : Nat} {z : Str} (h : ER K ta σ H z) (h' : ER K tb σ H i) (hz : z.length ≤ sizeLine) (hc : atI z.cps.toList i = some c) : ER K (tOp rIxS ta tb) σ H (⟨#[c]⟩ : Str) := fun H1 e Q q =>
  h.evS H1 e _ fun H2 e2 => h'.evI H2 (e.trans e2) _ fun H3 e3 => ⟨z, i, c, rfl, rfl, hz, hc, q _ H3 (e2.trans e3) (rep_str _)⟩
theorem er_chainI {f g : Int → Int → Bool} (ha : ER K ta σ H i) (hb : ER K tb σ H j) (hc : ER K tc σ H k) : ER K (tChain (rI0 fun a b => .bl (f a b)) (rI0 fun a b => .bl (g a b)) ta tb tc) σ H (f i j && g j k) := fun H1 e Q q =>
  ha.evI H1 e _ fun H2 e2 => hb.evI H2 (e.trans e2) _ fun H3 e3 => ⟨i, j, rfl, rfl, f i j, rfl, by
    cases hf : f i j with
    | false => exact q _ H3 (e2.trans e3) (by rw [hf]; exact rep_bool false)
    | true => exact hc.evI H3 (e.trans (e2.trans e3)) _ fun H4 e4 => ⟨j, k, rfl, rfl, q _ H4 (e2.trans (e3.trans e4)) (by rw [hf]; exact rep_bool (g j k))⟩⟩
/-- len(set(t)), t's ints different -/
theorem er_lenSetT {xs : Tp Int} (h : ER K ta σ H xs) (hz : List.length xs < 1000) (hn : List.Nodup (α := Int) xs) : ER K (tLenSetT K ta) σ H (List.length xs : Int) := fun H1 e Q q => h H1 e _ fun v H2 e2 r => by
  obtain ⟨a, vs, rfl, s, r⟩ := Rep.tup r
  obtain rfl := Reps.ints r
  exact ⟨a, xs, rfl, s, hz, hn, q _ H2 e2 (rep_int _)⟩
/-- return (e, l): a pair of a datum and a list -/
theorem s_retP {x : α} [Flat α] {ys : List β} [Flat β] {D : Ends} {n : Nat} {p : Addr} (h : ER K ta σ H x) (hσ : σ[n]? = some (some (.ref p))) (o : Own K H p ys)
    (k : ∀ v H', Ex H H' → Rep K H' v (x, ys) → (∀ q, (∃ ws, H' q = some (.lst ws)) → q ≠ p → Rep K (Z.cut H' q) v (x, ys)) → D.rt v H') : tRet (tTup (tCons ta (tCons (tVar n) tNil))) D σ H :=
  h H (Ex.refl H) _ fun v H1 e1 r => ⟨_, hσ, Evl.sz_of (by show 2 ≤ 100000; decide), fun l hl => by
    have e2 := Evl.Ex.new (o := .tup [v, .ref p]) hl
    have o2 := (o.mono e1).mono e2
    have r2 := r.mono e2
    refine k _ _ (e1.trans e2) (rep_pair upd_same r2 o2.rep) fun q ⟨ws, hq⟩ hqp => ?_
    have hl2 : (L2.upd H1 l (.tup [v, .ref p])) l = some (.tup [v, .ref p]) := upd_same
    have hql : q ≠ l := fun z => by rw [z, hl2] at hq; cases hq
    exact rep_pair (by rw [cut_ne (Ne.symm hql)]; exact hl2) (r2.imm (Tups.cut hq)) (o2.cut hq hqp).rep⟩
/-- a heap without what stands at p is kept by what keeps all that knows nothing of p -/
theorem ex_cut {p : Addr} (e : Ex G H) (h : G p = none) : Ex G (Z.cut H p) := fun b o z => by
  rw [cut_ne (fun w => by rw [w, h] at z; cases z)]
  exact e b o z
end
end Z
set_option Elab.async false
set_option linter.all false
set_option maxRecDepth 100000
set_option maxHeartbeats 4000000
set_option autoImplicit false
/-! Z: readings that tell of a value only what it keeps. -/
namespace Z
open PySem L2
open Evl (Ex)
open Dat
/-- a new list of which P holds -/
def LP (K : PySem.W.Frag) {α : Type} [Dat α] (te : TE) (σ : L2.St) (H : Hp) (P : List α → Prop) : Prop := ∀ H1, Ex H H1 → ∀ Q : VK, (∀ p H2 xs, H1 p = none → Ex H1 H2 → Own K H2 p xs → P xs → Q (.ref p) H2) → te σ H1 Q
/-- a value of which P holds, that stands without any list that stood before -/
def RF (K : PySem.W.Frag) {α : Type} [Dat α] (te : TE) (σ : L2.St) (H : Hp) (P : α → Prop) : Prop := ∀ H1, Ex H H1 → ∀ Q : VK, (∀ v H2 x, Ex H1 H2 → (∀ D, (∃ o, H1 D = some (.lst o)) → Rep K (Z.cut H2 D) v x) → P x → Q v H2) → te σ H1 Q
section
variable (K : PySem.W.Frag) {α β γ δ ε : Type} [Dat α] [Dat β] [Dat γ] [Dat δ] [Dat ε]
def sp4 (pre : α → β → γ → δ → Prop) (m : α → β → γ → δ → ε) : Sp := fun vs H Q _ => ∃ v u t s x y z a, vs = [v, u, t, s] ∧ Rep K H v x ∧ Rep K H u y ∧ Rep K H t z ∧ Rep K H s a ∧ pre x y z a ∧ ∀ w H', Ex H H' → Rep K H' w (m x y z a) → Q w H'
variable {K}
theorem len4 {pre : α → β → γ → δ → Prop} {m : α → β → γ → δ → ε} {s1 s2 s3 s4 : Str} : ∀ vs H Q E, sp4 K pre m vs H Q E → vs.length = [s1, s2, s3, s4].length := fun vs H Q E h => by
  obtain ⟨v, u, t, s, x, y, z, a, rfl, _⟩ := h
  rfl
variable {σ : L2.St} {H : Hp} {ta tb tc td : TE} {E : XK}
theorem er_c4 {pre : α → β → γ → δ → Prop} {m : α → β → γ → δ → ε} {x : α} {y : β} {z : γ} {a : δ} (h : ER K ta σ H x) (h2 : ER K tb σ H y) (h3 : ER K tc σ H z) (h4 : ER K td σ H a) (hp : pre x y z a) :
    ER K (tCall (sp4 K pre m) [] E (tCons ta (tCons tb (tCons tc (tCons td tNil))))) σ H (m x y z a) := fun H1 e Q q =>
  h H1 e _ fun v H2 e2 r => h2 H2 (e.trans e2) _ fun u H3 e3 r2 => h3 H3 ((e.trans e2).trans e3) _ fun t H4 e4 r3 => h4 H4 (((e.trans e2).trans e3).trans e4) _ fun s H5 e5 r4 =>
    ⟨v, u, t, s, x, y, z, a, rfl, r.mono (e3.trans (e4.trans e5)), r2.mono (e4.trans e5), r3.mono e5, r4, hp, fun w H6 e6 s => q w H6 ((((e2.trans e3).trans e4).trans e5).trans e6) s⟩
end
section
variable {K : PySem.W.Frag} {α β γ : Type} [Dat α] [Dat β] {σ : L2.St} {G H : Hp} {te : TE} {ti : TI} {g : TG} {i : Nat} {u : TS} {D : Ends}
theorem q_setLP {P : List α → Prop} (h : LP K te σ H P) (k : ∀ p H' xs, H p = none → Ex H H' → Own K H' p xs → P xs → u D (σ.set i (some (.ref p))) H') : tSeq (tAsg te (gName i)) u D σ H := h H (Ex.refl H) _ k
theorem s_retLP {P : List α → Prop} (h : LP K te σ H P) (k : ∀ p H' xs, H p = none → Ex H H' → Own K H' p xs → P xs → D.rt (.ref p) H') : tRet te D σ H := h H (Ex.refl H) _ k
theorem LP.mono {P : List α → Prop} (e : Ex G H) (h : LP K te σ G P) : LP K te σ H P := fun H1 a Q q => h H1 (e.trans a) Q q
variable {xs : List γ} {Y : γ → V → Hp → Prop} {S : γ → L2.St → Hp → Prop} {vs : List Nat}
theorem el_genR {P : β → Prop} (h : EIn ti σ H xs Y) (hg : GoesTo g (wipe σ vs) vs Y S) (he : ∀ x σ2 H2, x ∈ xs → Ex H H2 → S x σ2 H2 → RF K te σ2 H2 P) (hz : xs.length ≤ 100000) :
    LP K (tLc ti g tYes te vs) σ H fun rs : List β => rs.length = xs.length ∧ ∀ r, r ∈ rs → P r := fun H0 e0 Q q => h.run H0 e0 _ fun J H1 e1 W => by
  refine fun D hD => ⟨fun j m H' => m = xs.length - j ∧ j ≤ xs.length ∧ Ex H1 H' ∧ ∃ rs : List β, rs.length = j ∧ (∀ r, r ∈ rs → P r) ∧ Own K H' D rs, ⟨_, rfl, Nat.zero_le _, Evl.Ex.new hD, [], rfl, fun r hr => absurd hr (by simp), Own.nil⟩, ?_⟩
  rintro j m H' ⟨rfl, hj, eH, rs, hl, hP, o⟩
  by_cases hlt : j < xs.length
  · refine .inr ⟨W.go j H' hlt eH, fun H3 => Ex H1 H3 ∧ ∃ rs : List β, rs.length = j + 1 ∧ (∀ r, r ∈ rs → P r) ∧ Own K H3 D rs, fun H3 z => ⟨_, by omega, rfl, hlt, z⟩, fun v H2 hy => ?_⟩
    have hx : xs[j]? = some xs[j] := List.getElem?_eq_getElem hlt
    obtain ⟨e2, y⟩ := W.yld j xs[j] H' v H2 hx eH hy
    refine hg.run _ v H2 _ y fun σ2 s2 => ⟨(hg.wi _ _ _ s2).trans (wipe_wipe vs), ?_⟩
    refine he _ σ2 H2 (List.mem_of_getElem? hx) (e0.trans (e1.trans (eH.trans e2))) s2 H2 (Ex.refl _) _ fun w H4 x e4 rw' hPx => ?_
    obtain ⟨acc, h1, r1⟩ := (o.mono (e2.trans e4)).ex
    refine ⟨acc, h1, Evl.sz_lt (by rw [r1.len]; omega), ex_mut (eH.trans (e2.trans e4)) hD, rs ++ [x], by rw [List.length_append, hl]; rfl, fun r hr => ?_, acc ++ [w], upd_same, ?_⟩
    · rcases List.mem_append.mp hr with hr | hr
      · exact hP r hr
      · rw [List.mem_singleton.mp hr]; exact hPx
    · rw [cut_upd]
      exact r1.append (Reps.cons (rw' D (o.mono e2).at) reps_nil)
  · have : j = xs.length := by omega
    subst this
    exact .inl ⟨W.stop H' eH, q D H' rs (fresh_back e1 hD) (e1.trans eH) o ⟨hl, hP⟩⟩
end
end Z
namespace Z
open PySem L2
open Evl (Ex)
open Dat
section
variable {K : PySem.W.Frag} {α β : Type} [Dat α] [Dat β] {σ : L2.St} {G H : Hp} {ta tb td ty tv : TE} {u : TS} {D : Ends} {i m n : Nat}
theorem q_dnewK (k : ∀ p H', H p = none → Ex H H' → H' p = some (.dK []) → u D (σ.set i (some (.ref p))) H') : tSeq (tAsg tDNewK (gName i)) u D σ H := fun p hp => k p _ hp (Evl.Ex.new hp) upd_same
/-- x = d.setdefault(k, v), k not there -/
theorem q_setdN {d : Addr} {kvs : List (Key × V)} {nm : Str} {v : V} (hd : EV K td σ H (.ref d)) (hk : ∀ H1, Ex H H1 → EV K ty σ H1 (.str nm)) (hv : ∀ H1, Ex H H1 → EV K tv σ H1 v) (h : H d = some (.dK kvs)) (hl : kvs.length < 100000) (hn : valV kvs (Sum.inr nm) = none)
    (k : ∀ H', (∀ G, Ex G H → G d = none → Ex G H') → Tups H H' → H' d = some (.dK (putK kvs (Sum.inr nm) v)) → u D (σ.set i (some v)) H') : tSeq (tAsg (tDSetd td ty tv) (gName i)) u D σ H :=
  hd H (Ex.refl H) _ fun H1 e1 => ⟨d, rfl, .inl ⟨_, .inl (e1 _ _ h)⟩, hk H1 e1 H1 (Ex.refl _) _ fun H2 e2 => hv H2 (e1.trans e2) H2 (Ex.refl _) _ fun H3 e3 => by
    have e := e1.trans (e2.trans e3)
    have h3 := e _ _ h
    refine ⟨kvs, Sum.inr nm, h3, rfl, Evl.sz_lt hl, fun w hw => absurd (hn.symm.trans hw) (fun z => by cases z), fun _ => k _ (fun G eG hG => ex_mut (eG.trans e) hG) (fun a ys z => ?_) upd_same⟩
    have z3 := e _ _ z
    rw [upd_ne (fun y => by rw [y, h3] at z3; cases z3)]
    exact z3⟩
/-- a, b = p, p a pair -/
theorem g_pairR {x : α × β} {v : V} {Q : L2.St → Hp → Prop} (r : Rep K H v x) (q : ∀ u w, Rep K H u x.1 → Rep K H w x.2 → Q ((σ.set m (some u)).set n (some w)) H) : gTup K 2 (gCons (gName m) (gCons (gName n) gNil)) v σ H Q := by
  obtain ⟨p, u, w, rfl, s, r1, r2⟩ := Rep.pair r
  exact ⟨p, _, rfl, s, rfl, _, _, rfl, _, _, rfl, rfl, q u w r1 r2⟩
/-- tuple(t), t a tuple -/
theorem er_tupleT {xs : Tp α} (ha : ER K ta σ H xs) : ER K (tCB (fun xs H Q => ∃ p ys, xs = [.ref p] ∧ ((SqL K H p ys ∧ ∀ l, H l = none → Q (.ref l) (upd H l (.tup ys))) ∨ (SqT K H p ys ∧ Q (.ref p) H))) (tCons ta tNil)) σ H xs := fun H1 e Q q =>
  ha H1 e _ fun v H2 e2 r => by
    obtain ⟨a, vs, rfl, s, r'⟩ := Rep.tup r
    exact ⟨a, vs, rfl, .inr ⟨s, q _ _ e2 r⟩⟩
/-- x in t, t a tuple of ints -/
theorem er_inIT {x : Int} {xs : Tp Int} (ha : ER K ta σ H x) (hb : ER K tb σ H xs) : ER K (tOp (rIn K false) ta tb) σ H (decide (x ∈ (show List Int from xs))) := fun H1 e Q q => ha.evI H1 e _ fun H2 e2 => hb H2 (e.trans e2) _ fun w H3 e3 r => by
  obtain ⟨p, vs, rfl, s, r⟩ := Rep.tup r
  obtain rfl := Reps.ints r
  refine ⟨p, _, rfl, .inr s, rfl, flat_ints xs, ?_⟩
  show Q (.bl (inV _ _)) H3
  rw [show inV (.int x) (List.map V.int xs) = decide (x ∈ (show List Int from xs)) from inV_ints x xs]
  exact q _ H3 (e2.trans e3) (rep_bool _)
end
end Z
namespace Z
open PySem L2
open Evl (Ex)
open Dat
section
variable {K : PySem.W.Frag} {α β : Type} [Dat α] [Dat β] {σ : L2.St} {G H : Hp} {te ta tb : TE} {u : TS} {D : Ends} {i m n : Nat}
theorem er_eqS {i j : Str} (ha : ER K ta σ H i) (hb : ER K tb σ H j) : ER K (tOp rEq ta tb) σ H (decide (i = j)) := fun H1 e Q q =>
  ha.evS H1 e _ fun H2 e2 => hb.evS H2 (e.trans e2) _ fun H3 e3 => ⟨rfl, by
    have : decide (V.str i = V.str j) = decide (i = j) := by simp
    rw [this]; exact q _ H3 (e2.trans e3) (rep_bool _)⟩
/-- l.append(e), of e only P is told -/
theorem s_appR {P : α → Hp → Prop} {l : Nat} {p : Addr} {xs : List α} (hl : σ[l]? = some (some (.ref p))) (ho : Own K H p xs) [Flat α] (h : ∀ Q : VK, (∀ v H1 x, Ex H H1 → Rep K H1 v x → P x H1 → Q v H1) → te σ H Q) (hz : xs.length < 100000)
    (k : ∀ H1 x H', Ex H H1 → P x H1 → (∀ G, Ex G H1 → G p = none → Ex G H') → Own K H' p (xs ++ [x]) → D.nx σ H') :
    tDrop (tBM K "list" rAppend (tVar l) (tCons te tNil)) D σ H := by
  obtain ⟨vs, h1, r1⟩ := ho.ex
  refine ⟨_, hl, .inl ⟨rfl, _, SqL.of h1⟩, h _ fun v H1 x e1 r hP => ?_⟩
  obtain ⟨ws, h2, r2⟩ := (ho.mono e1).ex
  have ew : ws = vs := by
    have := e1 _ _ h1
    rw [this] at h2
    cases h2; rfl
  subst ew
  refine ⟨p, ws, v, rfl, rfl, h2, Evl.sz_lt (by rw [r2.len]; exact hz), k H1 x _ e1 hP (fun G eG hG => ex_mut eG hG) ⟨_, upd_same, ?_⟩⟩
  rw [cut_upd]
  exact Reps.append r2 (Reps.cons (r.imm (Tups.cut h2)) reps_nil)
theorem cut_m1 {α : Type} {xs : List α} : (cutD xs none (some (-1))) = xs.take (xs.length - 1) := by
  unfold cutD
  rw [HT.sIx_none, List.drop_zero, Nat.sub_zero]
  congr 1
  have e : HT.sIx xs.length xs.length (some (-1)) = ((-1 : Int) + (xs.length : Int)).toNat := by simp [HT.sIx]
  rw [e]
  omega
end
end Z
set_option Elab.async false
set_option linter.all false
set_option maxRecDepth 100000
set_option maxHeartbeats 4000000
set_option autoImplicit false
/-! Z: lists of lists that change within. -/
namespace Z
open PySem L2
open Evl (Ex)
open Dat
/-- the heap without what S tells -/
def mask (S : Addr → Bool) (H : Hp) : Hp := fun b => if S b = true then none else H b
section
variable {K : PySem.W.Frag} {α : Type} [Dat α] {σ : L2.St} {G H : Hp} {te ta tv : TE} {S : Addr → Bool} {i : Nat} {D : Ends} {u : TS}
theorem mask_ex : Ex (mask S H) H := fun b o h => by
  unfold mask at h
  split at h
  · cases h
  · exact h
theorem mask_no {b : Addr} (h : S b = false) : mask S H b = H b := by unfold mask; rw [h]; rfl
theorem mask_yes {b : Addr} (h : S b = true) : mask S H b = none := by unfold mask; rw [if_pos h]
theorem own_mask {p : Addr} {xs : List α} [Flat α] (o : Own K H p xs) (hS : ∀ b, S b = true → ∃ ws, H b = some (.lst ws)) (hp : S p = false) : Own K (mask S H) p xs := by
  obtain ⟨vs, h1, r1⟩ := o.ex
  refine ⟨vs, by rw [mask_no hp]; exact h1, r1.imm fun b ys z => ?_⟩
  by_cases hbp : b = p
  · rw [hbp, cut_same] at z
    cases z
  · rw [cut_ne hbp] at z ⊢
    cases hb : S b with
    | false => rw [mask_no hb]; exact z
    | true =>
      obtain ⟨ws, hw⟩ := hS b hb
      rw [hw] at z
      cases z
/-- a list of objects stands by its addresses alone -/
theorem own_obs {p : Addr} {xs : List Ob} : Own K H p xs ↔ H p = some (.lst (xs.map fun x => V.ref x.a)) := by
  have rr : ∀ (G : Hp) (ys : List Ob), Reps K G (ys.map fun x => V.ref x.a) ys := fun G ys => by
    induction ys with
    | nil => exact reps_nil
    | cons y ys ih => exact Reps.cons (rep_obj y) ih
  have inv : ∀ (G : Hp) (ys : List Ob) (vs : List V), Reps K G vs ys → vs = ys.map fun x => V.ref x.a := fun G ys => by
    induction ys with
    | nil => intro vs r; exact Reps.nilI r
    | cons y ys ih =>
      intro vs r
      obtain ⟨v, ws, rfl, r1, r2⟩ := Reps.inv r
      rw [Rep.obj r1, ih ws r2]
      rfl
  constructor
  · intro o
    obtain ⟨vs, h1, r1⟩ := o.ex
    rw [h1, inv _ _ _ r1]
  · intro h
    exact ⟨_, h, rr _ _⟩
/-- [[] for _ in range(n)] -/
theorem nest_new {n : Nat} (h : ER K ta σ H (n : Int)) (hn : n ≤ 100000) : ∀ H1, Ex H H1 → ∀ Q : VK, (∀ p H2 (obs : List Ob), H1 p = none → Ex H1 H2 → H2 p = some (.lst (obs.map fun x : Ob => V.ref x.a)) → obs.length = n → (∀ x : Ob, x ∈ obs → H1 x.a = none ∧ x.a ≠ p ∧ H2 x.a = some (.lst [])) → (obs.map (·.a)).Nodup → Q (.ref p) H2) →
    tLc (iRng1 (tCons ta tNil)) (gName i) tYes (tLst tNil) [i] σ H1 Q := fun H0 e0 Q q => (in_rng h (by omega) (by omega)).run H0 e0 _ fun J H1 e1 W => by
  have hl : (List.range (n : Int).toNat).length = n := by rw [List.length_range, Int.toNat_natCast]
  refine fun D hD => ⟨fun j m H' => m = n - j ∧ j ≤ n ∧ Ex H1 H' ∧ ∃ obs : List Ob, obs.length = j ∧ H' D = some (.lst (obs.map fun x => V.ref x.a)) ∧ (∀ x : Ob, x ∈ obs → H1 x.a = none ∧ x.a ≠ D ∧ H' x.a = some (.lst [])) ∧ (obs.map (·.a)).Nodup,
    ⟨_, rfl, Nat.zero_le _, Evl.Ex.new hD, [], rfl, upd_same, fun x hx => absurd hx List.not_mem_nil, List.nodup_nil⟩, ?_⟩
  rintro j m H' ⟨rfl, hj, eH, obs, hlen, hDl, hob, hnd⟩
  by_cases hlt : j < n
  · refine .inr ⟨W.go j H' (by rw [hl]; exact hlt) eH, fun H3 => Ex H1 H3 ∧ ∃ obs : List Ob, obs.length = j + 1 ∧ H3 D = some (.lst (obs.map fun x => V.ref x.a)) ∧ (∀ x : Ob, x ∈ obs → H1 x.a = none ∧ x.a ≠ D ∧ H3 x.a = some (.lst [])) ∧ (obs.map (·.a)).Nodup, fun H3 z => ⟨_, by omega, rfl, hlt, z⟩, fun v H2 hy => ?_⟩
    have hx : (List.range (n : Int).toNat)[j]? = some ((List.range (n : Int).toNat)[j]'(by rw [hl]; exact hlt)) := List.getElem?_eq_getElem _
    obtain ⟨e2, rfl⟩ := W.yld j _ H' v H2 hx eH hy
    refine ⟨wipe1 _, Evl.sz_of (by show 0 ≤ 100000; decide), fun q hq => ?_⟩
    have hD2 := e2 _ _ hDl
    have hqD : q ≠ D := fun z => by rw [z, hD2] at hq; cases hq
    have hqo : ∀ x : Ob, x ∈ obs → x.a ≠ q := fun x hx z => by
      have := e2 _ _ (hob x hx).2.2
      rw [z, hq] at this
      cases this
    have e3 := Evl.Ex.new (o := .lst []) hq
    refine ⟨obs.map fun x => V.ref x.a, e3 _ _ hD2, Evl.sz_lt (by rw [List.length_map]; omega), ex_mut ((eH.trans e2).trans e3) hD, obs ++ [⟨q⟩], by rw [List.length_append, hlen]; rfl, ?_, fun x hx => ?_, ?_⟩
    · rw [upd_same, List.map_append]
      rfl
    · rcases List.mem_append.mp hx with hx | hx
      · obtain ⟨g1, g2, g3⟩ := hob x hx
        exact ⟨g1, g2, by rw [upd_ne g2]; exact e3 _ _ (e2 _ _ g3)⟩
      · have := List.mem_singleton.mp hx
        subst this
        exact ⟨fresh_back (eH.trans e2) hq, hqD, by rw [upd_ne hqD]; exact upd_same⟩
    · rw [List.map_append]
      refine List.nodup_append.mpr ⟨hnd, List.nodup_cons.mpr ⟨List.not_mem_nil, List.nodup_nil⟩, fun b hb c hc => ?_⟩
      obtain ⟨x, hx, rfl⟩ := List.mem_map.mp hb
      have hc : c = q := List.mem_singleton.mp hc
      rw [hc]
      exact hqo x hx
  · have : j = n := by omega
    subst this
    exact .inl ⟨by have := W.stop H' eH; rw [hl] at this; exact this, q D H' obs (fresh_back e1 hD) (e1.trans eH) hDl hlen (fun x hx => ⟨fresh_back e1 (hob x hx).1, (hob x hx).2⟩) hnd⟩
/-- l.append(e) where l is told by an expression; e an int -/
theorem s_appE {l : Addr} {xs : List V} {v : Int} (hl : EV K te σ H (.ref l)) (hx : H l = some (.lst xs)) (hv : ∀ H1, Ex H H1 → ER K tv σ H1 v) (hz : xs.length < 100000)
    (k : ∀ H', (∀ G, Ex G H → G l = none → Ex G H') → (∀ b o, H b = some o → b ≠ l → H' b = some o) → H' l = some (.lst (xs ++ [.int v])) → D.nx σ H') : tDrop (tBM K "list" rAppend te (tCons tv tNil)) D σ H :=
  hl H (Ex.refl H) _ fun H1 e1 => ⟨.inl ⟨rfl, _, SqL.of (e1 _ _ hx)⟩, (hv H1 e1).evI H1 (Ex.refl _) _ fun H2 e2 => by
    have e := e1.trans e2
    exact ⟨l, xs, .int v, rfl, rfl, e _ _ hx, Evl.sz_lt hz, k _ (fun G eG hG => ex_mut (eG.trans e) hG) (fun b o hb ne => by rw [upd_ne ne]; exact e _ _ hb) upd_same⟩⟩
theorem q_appE {l : Addr} {xs : List V} {v : Int} (hl : EV K te σ H (.ref l)) (hx : H l = some (.lst xs)) (hv : ∀ H1, Ex H H1 → ER K tv σ H1 v) (hz : xs.length < 100000)
    (k : ∀ H', (∀ G, Ex G H → G l = none → Ex G H') → (∀ b o, H b = some o → b ≠ l → H' b = some o) → H' l = some (.lst (xs ++ [.int v])) → u D σ H') : tSeq (tDrop (tBM K "list" rAppend te (tCons tv tNil))) u D σ H := s_appE (D := { D with nx := u D }) hl hx hv hz k
/-- a for over a list that an expression tells outright and that stands in G -/
theorem s_forE {xs : List α} {v : V} {g : TG} {tb : TS} (hv : EV K te σ H v) (r : Rep K G v xs) (e : Ex G H) (J : Nat → L2.St → Hp → Prop) (j0 : ∀ H1, Ex H H1 → J 0 σ H1)
    (js : ∀ i x w σ' H', xs[i]? = some x → Ex G H' → Rep K G w x → J i σ' H' → g w σ' H' fun σ2 H2 => tb { D with nx := fun σ3 H3 => Ex G H3 ∧ J (i + 1) σ3 H3, ct := fun σ3 H3 => Ex G H3 ∧ J (i + 1) σ3 H3, bk := D.nx } σ2 H2)
    (jd : ∀ σ' H', Ex G H' → J xs.length σ' H' → D.nx σ' H') : tFor (iList K te) g tb D σ H := hv H (Ex.refl H) _ fun H1 e1 => by
  obtain ⟨a, vs, rfl, sG, rG⟩ := Rep.list r
  refine ⟨a, rfl, ⟨vs, Evl.ex_l (e.trans e1) sG⟩, for_list (K := K) (a := a) (xs := vs) (fun i σ' H' => Ex G H' ∧ J i σ' H') ⟨e.trans e1, j0 H1 e1⟩ (fun i σ' H' _ z => Evl.ex_l z.1 sG) (fun i w σ' H' hi z => ?_) (fun σ' H' z => ?_)⟩
  · obtain ⟨x, hx, rx⟩ := rG.got hi
    exact js i x w σ' H' hx z.1 rx z.2
  · rw [rG.len] at z
    exact jd σ' H' z.1 z.2
end
section
variable {K : PySem.W.Frag} {α : Type} [Dat α] {σ : L2.St} {H : Hp} {te tv : TE} {u : TS} {D : Ends}
theorem q_drop (h : te σ H fun _ H' => u D σ H') : tSeq (tDrop te) u D σ H := h
theorem s_fld {x C dx : Addr} {fs : List (Str × V)} {f : Str} {v : V} (hv : EV K tv σ H v) (hs : σ[0]? = some (some (.ref x))) (h : H x = some (.ins C dx fs)) (cl : Cls K C) (na : NoAttr K C f) (hl : fs.length < 1000)
    (k : ∀ H1, Ex H H1 → D.nx σ (upd H1 x (.ins C dx (putF f v fs)))) : sFld K (tVar 0) tv f D σ H := hv H (Ex.refl _) _ fun H1 e1 => ⟨_, hs, x, C, dx, fs, rfl, e1 _ _ h, cl, na, hl, k H1 e1⟩
theorem q_fld {x C dx : Addr} {fs : List (Str × V)} {f : Str} {v : V} (hv : EV K tv σ H v) (hs : σ[0]? = some (some (.ref x))) (h : H x = some (.ins C dx fs)) (cl : Cls K C) (na : NoAttr K C f) (hl : fs.length < 1000)
    (k : ∀ H1, Ex H H1 → u D σ (upd H1 x (.ins C dx (putF f v fs)))) : tSeq (sFld K (tVar 0) tv f) u D σ H := s_fld (D := { D with nx := u D }) hv hs h cl na hl k
theorem s_fldL {x C dx : Addr} {fs : List (Str × V)} {f : Str} {xs : List α} (hv : EL K tv σ H xs) (hs : σ[0]? = some (some (.ref x))) (h : H x = some (.ins C dx fs)) (cl : Cls K C) (na : NoAttr K C f) (hl : fs.length < 1000)
    (k : ∀ p H1, H p = none → Ex H H1 → Own K H1 p xs → D.nx σ (upd H1 x (.ins C dx (putF f (.ref p) fs)))) : sFld K (tVar 0) tv f D σ H := hv H (Ex.refl _) _ fun p H1 hp e1 o => ⟨_, hs, x, C, dx, fs, rfl, e1 _ _ h, cl, na, hl, k p H1 hp e1 o⟩
theorem q_fldL {x C dx : Addr} {fs : List (Str × V)} {f : Str} {xs : List α} (hv : EL K tv σ H xs) (hs : σ[0]? = some (some (.ref x))) (h : H x = some (.ins C dx fs)) (cl : Cls K C) (na : NoAttr K C f) (hl : fs.length < 1000)
    (k : ∀ p H1, H p = none → Ex H H1 → Own K H1 p xs → u D σ (upd H1 x (.ins C dx (putF f (.ref p) fs)))) : tSeq (sFld K (tVar 0) tv f) u D σ H := s_fldL (D := { D with nx := u D }) hv hs h cl na hl k
theorem own_updI {p x C dx : Addr} {fs : List (Str × V)} {xs : List α} {o' : HO} [Flat α] (o : Own K H p xs) (hx : H x = some (.ins C dx fs)) : Own K (upd H x o') p xs := by
  obtain ⟨vs, h1, r1⟩ := o.ex
  have ne : p ≠ x := fun z => by rw [z, hx] at h1; cases h1
  refine ⟨vs, by rw [upd_ne ne]; exact h1, ?_⟩
  rw [cut_upd_ne (Ne.symm ne)]
  exact r1.imm (Tups.insU ((cut_ne (Ne.symm ne)).trans hx))
theorem q_fldW {x : Addr} {f : Str} (hs : σ[0]? = some (some (.ref x))) (h : tv σ H fun y H1 => ∃ C dx fs, H1 x = some (.ins C dx fs) ∧ Cls K C ∧ NoAttr K C f ∧ fs.length < 1000 ∧ u D σ (upd H1 x (.ins C dx (putF f y fs)))) : tSeq (sFld K (tVar 0) tv f) u D σ H := by
  have : (fun y H1 => ∃ C dx fs, H1 x = some (.ins C dx fs) ∧ Cls K C ∧ NoAttr K C f ∧ fs.length < 1000 ∧ u D σ (upd H1 x (.ins C dx (putF f y fs)))) = fun y H1 => tVar 0 σ H1 fun x' H2 => ∃ a C dx fs, x' = .ref a ∧ H2 a = some (.ins C dx fs) ∧ Cls K C ∧ NoAttr K C f ∧ fs.length < 1000 ∧ u D σ (upd H2 a (.ins C dx (putF f y fs))) := by
    funext y H1
    refine propext ⟨fun ⟨C, dx, fs, g⟩ => ⟨_, hs, x, C, dx, fs, rfl, g⟩, fun ⟨v, hv, b, C, dx, fs, e, g⟩ => ?_⟩
    rw [hs] at hv
    cases hv
    cases e
    exact ⟨C, dx, fs, g⟩
  rw [this] at h
  exact h
theorem ER.evO {x : Ob} (h : ER K te σ H x) : EV K te σ H (.ref x.a) := fun H1 e Q q => h H1 e Q fun v H2 e2 r => by rw [(Rep.obj r)]; exact q H2 e2
end
end Z
set_option Elab.async false
set_option linter.all false
set_option maxRecDepth 100000
set_option maxHeartbeats 4000000
set_option autoImplicit false
/-! Z: dicts whose keys are ints. -/
namespace Z
open PySem L2
open Evl (Ex)
open Dat
section
variable {K : PySem.W.Frag} {σ : L2.St} {G H : Hp} {td ty tv : TE} {u : TS} {D : Ends} {n : Int} {d : Addr} {kvs : List (Key × V)}
theorem er_dinI (hd : EV K td σ H (.ref d)) (hk : ER K ty σ H n) (h : H d = some (.dK kvs)) : ER K (tDIn ty td) σ H (valV kvs (Sum.inl n)).isSome := fun H1 e Q q =>
  hk.evI H1 e _ fun H2 e2 => hd H2 (e.trans e2) _ fun H3 e3 => ⟨d, _, rfl, DGet.k (k := Sum.inl n) ((e.trans (e2.trans e3)) _ _ h), q _ H3 (e2.trans e3) (rep_bool _)⟩
theorem er_dnotinI (hd : EV K td σ H (.ref d)) (hk : ER K ty σ H n) (h : H d = some (.dK kvs)) : ER K (tDNotIn ty td) σ H (!(valV kvs (Sum.inl n)).isSome) := fun H1 e Q q =>
  hk.evI H1 e _ fun H2 e2 => hd H2 (e.trans e2) _ fun H3 e3 => ⟨d, _, rfl, DGet.k (k := Sum.inl n) ((e.trans (e2.trans e3)) _ _ h), q _ H3 (e2.trans e3) (rep_bool _)⟩
theorem er_dgetI {m : Int} (hd : EV K td σ H (.ref d)) (hk : ER K ty σ H n) (h : H d = some (.dK kvs)) (hv : valV kvs (Sum.inl n) = some (.int m)) : ER K (tDGet td ty) σ H m := fun H1 e Q q =>
  hd H1 e _ fun H2 e2 => hk.evI H2 (e.trans e2) _ fun H3 e3 => ⟨d, .int m, rfl, by rw [← hv]; exact DGet.k (k := Sum.inl n) ((e.trans (e2.trans e3)) _ _ h), q _ H3 (e2.trans e3) (rep_int m)⟩
/-- d[n] = v -/
theorem s_dputI {v : V} (hv : EV K tv σ H v) (hd : ∀ H1, Ex H H1 → EV K td σ H1 (.ref d)) (hk : ∀ H1, Ex H H1 → ER K ty σ H1 n) (h : H d = some (.dK kvs)) (hl : kvs.length < 100000)
    (c : ∀ H', (∀ G, Ex G H → G d = none → Ex G H') → (∀ b o, H b = some o → b ≠ d → H' b = some o) → H' d = some (.dK (putK kvs (Sum.inl n) v)) → D.nx σ H') : sDPut td ty tv D σ H :=
  hv H (Ex.refl H) _ fun H1 e1 => hd H1 e1 H1 (Ex.refl H1) _ fun H2 e2 => (hk H2 (e1.trans e2)).evI H2 (Ex.refl H2) _ fun H3 e3 => by
    have e := e1.trans (e2.trans e3)
    have h3 := e _ _ h
    exact ⟨d, _, rfl, DPut.k (k := Sum.inl n) h3 (Evl.sz_lt hl), c _ (fun G eG hG => ex_mut (eG.trans e) hG) (fun b o hb ne => by rw [upd_ne ne]; exact e _ _ hb) upd_same⟩
theorem q_dputI {v : V} (hv : EV K tv σ H v) (hd : ∀ H1, Ex H H1 → EV K td σ H1 (.ref d)) (hk : ∀ H1, Ex H H1 → ER K ty σ H1 n) (h : H d = some (.dK kvs)) (hl : kvs.length < 100000)
    (c : ∀ H', (∀ G, Ex G H → G d = none → Ex G H') → (∀ b o, H b = some o → b ≠ d → H' b = some o) → H' d = some (.dK (putK kvs (Sum.inl n) v)) → u D σ H') : tSeq (sDPut td ty tv) u D σ H := s_dputI (D := { D with nx := u D }) hv hd hk h hl c
theorem valV_putI {m k : Int} {v : V} : valV (putK kvs (Sum.inl k) v) (Sum.inl m) = if m = k then some v else valV kvs (Sum.inl m) := by
  rw [valV_put]
  by_cases h : m = k
  · rw [if_pos h, if_pos (by rw [h])]
  · rw [if_neg h, if_neg (fun z => h (Sum.inl.inj z))]
/-- {x: True for x in xs}, ints -/
theorem dc_true {xs : List Int} {tl : TE} {i : Nat} (h : ER K tl σ H xs) (hz : xs.length ≤ 50000) (hi : i < σ.length) : ∀ H1, Ex H H1 → ∀ Q : VK, (∀ p H2 (kvs : List (Key × V)), H1 p = none → Ex H1 H2 → H2 p = some (.dK kvs) → kvs.length ≤ xs.length → (∀ m : Int, (valV kvs (Sum.inl m)).isSome = decide (m ∈ xs)) → Q (.ref p) H2) →
    tDc (iList K tl) (gName i) tYes (tVar i) (tC (.bl true)) [i] σ H1 Q := fun H0 e0 Q q => (in_list h).run H0 e0 _ fun J H1 e1 W => by
  refine fun D hD => ⟨fun j m H' => m = xs.length - j ∧ j ≤ xs.length ∧ Ex H1 H' ∧ ∃ kvs : List (Key × V), H' D = some (.dK kvs) ∧ kvs.length ≤ j ∧ ∀ m : Int, (valV kvs (Sum.inl m)).isSome = decide (m ∈ xs.take j),
    ⟨_, rfl, Nat.zero_le _, Evl.Ex.new hD, [], upd_same, Nat.le_refl _, fun m => by rw [List.take_zero]; rfl⟩, ?_⟩
  rintro j m H' ⟨rfl, hj, eH, kvs, hk, hl, hv⟩
  by_cases hlt : j < xs.length
  · refine .inr ⟨W.go j H' hlt eH, fun H3 => Ex H1 H3 ∧ ∃ kvs : List (Key × V), H3 D = some (.dK kvs) ∧ kvs.length ≤ j + 1 ∧ ∀ m : Int, (valV kvs (Sum.inl m)).isSome = decide (m ∈ xs.take (j + 1)), fun H3 z => ⟨_, by omega, rfl, hlt, z⟩, fun v H2 hy => ?_⟩
    have hx : xs[j]? = some xs[j] := List.getElem?_eq_getElem hlt
    obtain ⟨e2, y⟩ := W.yld j xs[j] H' v H2 hx eH hy
    obtain rfl := Rep.int y
    have hw : ((wipe σ [i]).set i (some (.int xs[j])))[i]? = some (some (.int xs[j])) := by
      rw [List.getElem?_set_self]
      show i < (σ.set i none).length
      rw [List.length_set]
      exact hi
    refine ⟨wipe1 _, _, hw, kvs, Sum.inl xs[j], rfl, e2 _ _ hk, Evl.sz_lt (by omega), ex_mut (eH.trans e2) hD, _, upd_same, ?_, fun m => ?_⟩
    · have := length_putK kvs (Sum.inl xs[j]) (.bl true)
      omega
    · rw [valV_putI, show xs.take (j + 1) = xs.take j ++ [xs[j]] by rw [List.take_succ, hx]; rfl]
      by_cases hm : m = xs[j]
      · rw [if_pos hm]
        exact (decide_eq_true (List.mem_append_right _ (List.mem_singleton.mpr hm))).symm
      · rw [if_neg hm, hv m]
        exact decide_eq_decide.mpr ⟨fun z => List.mem_append_left _ z, fun z => (List.mem_append.mp z).elim id fun z => absurd (List.mem_singleton.mp z) hm⟩
  · have : j = xs.length := by omega
    subst this
    rw [List.take_length] at hv
    exact .inl ⟨W.stop H' eH, q D H' kvs (fresh_back e1 hD) (e1.trans eH) hk hl hv⟩
end
end Z
set_option linter.all false
set_option autoImplicit false
/-! graphs on the numbers below n: parts, forests -/
namespace Gr
def uni (f : Nat → Nat) (e : Nat × Nat) : Nat → Nat := fun k => if f k = max (f e.1) (f e.2) then min (f e.1) (f e.2) else f k
/-- the least place of the part of k -/
def lab : List (Nat × Nat) → Nat → Nat
  | [], k => k
  | e :: E, k => uni (lab E) e k
def Cl (E : List (Nat × Nat)) (S : Nat → Prop) : Prop := ∀ e, e ∈ E → (S e.1 ↔ S e.2)
theorem mm (x y : Nat) : (max x y = x ∧ min x y = y) ∨ (max x y = y ∧ min x y = x) := by omega
theorem lab_le : ∀ (E : List (Nat × Nat)) (k : Nat), lab E k ≤ k
  | [], k => Nat.le_refl k
  | e :: E, k => by
    have h := lab_le E k
    show uni (lab E) e k ≤ k
    unfold uni
    split <;> omega
theorem lab_idem : ∀ (E : List (Nat × Nat)) (k : Nat), lab E (lab E k) = lab E k
  | [], k => rfl
  | e :: E, k => by
    have i1 := lab_idem E k
    have i2 := lab_idem E e.1
    have i3 := lab_idem E e.2
    show uni (lab E) e (uni (lab E) e k) = uni (lab E) e k
    unfold uni
    by_cases h : lab E k = max (lab E e.1) (lab E e.2)
    · rw [if_pos h]
      rcases mm (lab E e.1) (lab E e.2) with ⟨h1, h2⟩ | ⟨h1, h2⟩ <;> rw [h1, h2]
      · rw [i3]; split <;> rfl
      · rw [i2]; split <;> rfl
    · rw [if_neg h, i1, if_neg h]
theorem lab_edge : ∀ {E : List (Nat × Nat)} {e : Nat × Nat}, e ∈ E → lab E e.1 = lab E e.2
  | [], _, h => by cases h
  | d :: E, e, h => by
    show uni (lab E) d e.1 = uni (lab E) d e.2
    rcases List.mem_cons.mp h with rfl | h
    · unfold uni
      rcases mm (lab E e.1) (lab E e.2) with ⟨h1, h2⟩ | ⟨h1, h2⟩ <;> rw [h1, h2]
      · rw [if_pos rfl]; split <;> simp_all
      · rw [if_pos rfl]; split <;> simp_all
    · unfold uni
      rw [lab_edge h]
theorem lab_cl : ∀ {E : List (Nat × Nat)} {S : Nat → Prop}, Cl E S → ∀ k, S k ↔ S (lab E k)
  | [], S, h, k => Iff.rfl
  | e :: E, S, h, k => by
    have ih := lab_cl (E := E) (S := S) fun d hd => h d (List.mem_cons_of_mem _ hd)
    have he := h e (List.mem_cons_self ..)
    show S k ↔ S (uni (lab E) e k)
    unfold uni
    split
    · rename_i hk
      rw [ih k, hk]
      have ha := ih e.1
      have hb := ih e.2
      rcases mm (lab E e.1) (lab E e.2) with ⟨h1, h2⟩ | ⟨h1, h2⟩ <;> rw [h1, h2]
      · rw [← ha, ← hb]; exact he
      · rw [← ha, ← hb]; exact he.symm
    · exact ih k
theorem cl_lab (E : List (Nat × Nat)) (r : Nat) : Cl E fun x => lab E x = r := fun e he => by
  show lab E e.1 = r ↔ lab E e.2 = r
  rw [lab_edge he]
theorem lab_sub {E E' : List (Nat × Nat)} (h : ∀ e, e ∈ E → e ∈ E') (k : Nat) : lab E' (lab E k) = lab E' k :=
  (lab_cl (E := E) (S := fun x => lab E' x = lab E' k) (fun e he => cl_lab E' _ e (h e he)) k).mp rfl
theorem lab_same {E E' : List (Nat × Nat)} (h : ∀ e, e ∈ E → e ∈ E') {k l : Nat} (e : lab E k = lab E l) : lab E' k = lab E' l := by
  rw [← lab_sub h k, e, lab_sub h]
theorem lab_ext {E E' : List (Nat × Nat)} (h : ∀ e, e ∈ E ↔ e ∈ E') (k : Nat) : lab E k = lab E' k := by
  have h1 := lab_sub (fun e => (h e).mp) k
  have h2 := lab_sub (fun e => (h e).mpr) k
  have h3 := lab_le E' (lab E k)
  have h4 := lab_le E (lab E' k)
  omega
def roots (n : Nat) (E : List (Nat × Nat)) : Nat := (List.range n).countP fun k => decide (lab E k = k)
theorem countP_one {M : Nat} {p q : Nat → Bool} (hq : q M = true) (hp : p M = false) (h : ∀ k, k ≠ M → p k = q k) : ∀ {l : List Nat}, l.Nodup → M ∈ l → l.countP q = l.countP p + 1
  | [], _, hm => by cases hm
  | x :: l, nd, hm => by
    rw [List.nodup_cons] at nd
    have other : ∀ l : List Nat, M ∉ l → l.countP q = l.countP p := fun l hl => by
      induction l with
      | nil => rfl
      | cons y l ih =>
        rw [List.countP_cons, List.countP_cons, ih (fun z => hl (List.mem_cons_of_mem _ z)), h y (fun z => hl (by rw [z]; exact List.mem_cons_self ..))]
    rw [List.countP_cons, List.countP_cons]
    by_cases hx : x = M
    · subst hx
      rw [other l nd.1, hq, hp]
      simp
    · rw [countP_one hq hp h nd.2 ((List.mem_cons.mp hm).resolve_left (Ne.symm hx)), h x hx]
      omega
theorem roots_same {n : Nat} {E : List (Nat × Nat)} {e : Nat × Nat} (h : lab E e.1 = lab E e.2) : roots n (e :: E) = roots n E := by
  unfold roots
  congr 1
  funext k
  have : lab (e :: E) k = lab E k := by
    show uni (lab E) e k = lab E k
    unfold uni
    split
    · rename_i h1
      rw [h1, h]
      omega
    · rfl
  rw [this]
theorem roots_one {n : Nat} {E : List (Nat × Nat)} {e : Nat × Nat} (h1 : e.1 < n) (h2 : e.2 < n) (h : lab E e.1 ≠ lab E e.2) : roots n E = roots n (e :: E) + 1 := by
  unfold roots
  have la := lab_le E e.1
  have lb := lab_le E e.2
  have ia := lab_idem E e.1
  have ib := lab_idem E e.2
  have hu : ∀ k, lab (e :: E) k = uni (lab E) e k := fun k => rfl
  have hM : lab E (max (lab E e.1) (lab E e.2)) = max (lab E e.1) (lab E e.2) := by
    rcases mm (lab E e.1) (lab E e.2) with ⟨z, _⟩ | ⟨z, _⟩ <;> rw [z] <;> assumption
  have hm : lab E (min (lab E e.1) (lab E e.2)) = min (lab E e.1) (lab E e.2) := by
    rcases mm (lab E e.1) (lab E e.2) with ⟨_, z⟩ | ⟨_, z⟩ <;> rw [z] <;> assumption
  refine countP_one (M := max (lab E e.1) (lab E e.2)) (decide_eq_true hM) ?_ (fun k hk => ?_) List.nodup_range (List.mem_range.mpr (by omega))
  · refine decide_eq_false ?_
    rw [hu]
    unfold uni
    rw [if_pos hM]
    omega
  · refine decide_eq_decide.mpr ?_
    rw [hu]
    unfold uni
    split
    · rename_i z
      constructor
      · intro y
        rw [← y, hm] at z
        omega
      · intro y
        rw [y] at z
        exact absurd z hk
    · exact Iff.rfl
theorem roots_ge {n : Nat} : ∀ {E : List (Nat × Nat)}, (∀ e, e ∈ E → e.1 < n ∧ e.2 < n) → n ≤ roots n E + E.length
  | [], _ => by
    have : roots n [] = n := by
      unfold roots
      rw [List.countP_eq_length.mpr fun k _ => decide_eq_true (by rfl), List.length_range]
    omega
  | e :: E, h => by
    have ih := roots_ge (E := E) fun d hd => h d (List.mem_cons_of_mem _ hd)
    have he := h e (List.mem_cons_self ..)
    rw [List.length_cons]
    by_cases z : lab E e.1 = lab E e.2
    · rw [roots_same z]; omega
    · have := roots_one he.1 he.2 z
      omega
theorem roots_ext {n : Nat} {E E' : List (Nat × Nat)} (h : ∀ e, e ∈ E ↔ e ∈ E') : roots n E = roots n E' := by
  unfold roots
  congr 1
  funext k
  rw [lab_ext h]
/-- an edge within a ring: more edges than a forest has -/
theorem roots_ring {n : Nat} {E : List (Nat × Nat)} {e : Nat × Nat} (hE : ∀ e, e ∈ E → e.1 < n ∧ e.2 < n) (he : e ∈ E) (h : lab (E.erase e) e.1 = lab (E.erase e) e.2) : n < roots n E + E.length := by
  have p := List.perm_cons_erase he
  rw [roots_ext (n := n) fun d => p.mem_iff, p.length_eq, List.length_cons, roots_same h]
  have := roots_ge (n := n) (E := E.erase e) fun d hd => hE d (List.mem_of_mem_erase hd)
  omega
theorem length_sub {α : Type} [DecidableEq α] : ∀ {l m : List α}, l.Nodup → (∀ x, x ∈ l → x ∈ m) → l.length ≤ m.length
  | [], m, _, _ => Nat.zero_le _
  | x :: l, m, nd, h => by
    rw [List.nodup_cons] at nd
    have hx := h x (List.mem_cons_self ..)
    have := length_sub (l := l) (m := m.erase x) nd.2 fun y hy => (List.mem_erase_of_ne (fun z => nd.1 (by rw [← z]; exact hy))).mpr (h y (List.mem_cons_of_mem _ hy))
    have p := (List.perm_cons_erase hx).length_eq
    rw [List.length_cons] at p ⊢
    omega
theorem countP_not {p : Nat → Bool} : ∀ l : List Nat, l.countP p + l.countP (fun k => !p k) = l.length
  | [] => rfl
  | x :: l => by
    have := countP_not (p := p) l
    rw [List.countP_cons, List.countP_cons, List.length_cons]
    cases p x <;> simp <;> omega
/-- a forest that holds each edge -/
theorem roots_forest {n : Nat} {E : List (Nat × Nat)} {par : Nat → Option Nat} (hE : ∀ e, e ∈ E → e.1 < e.2 ∧ e.2 < n) (nd : E.Nodup) (hp : ∀ e, e ∈ E → par e.2 = some e.1 ∨ par e.1 = some e.2) (hr : ∀ v, v < n → lab E v = v → par v = none) : E.length + roots n E ≤ n := by
  let c : Nat × Nat → Nat := fun e => if par e.2 = some e.1 then e.2 else e.1
  have hc : ∀ e, e ∈ E → (c e = e.2 ∧ par (c e) = some e.1) ∨ (c e = e.1 ∧ par (c e) = some e.2) := fun e he => by
    by_cases z : par e.2 = some e.1
    · have : c e = e.2 := if_pos z
      exact .inl ⟨this, by rw [this]; exact z⟩
    · have : c e = e.1 := if_neg z
      exact .inr ⟨this, by rw [this]; exact (hp e he).resolve_left z⟩
  have inj : ∀ e d, e ∈ E → d ∈ E → c e = c d → e = d := fun e d he hd z => by
    have h1 := hE e he
    have h2 := hE d hd
    rcases hc e he with ⟨a1, a2⟩ | ⟨a1, a2⟩ <;> rcases hc d hd with ⟨b1, b2⟩ | ⟨b1, b2⟩ <;> rw [z, b2] at a2 <;> injection a2 with a2 <;> rw [a1, b1] at z
    · exact Prod.ext a2.symm z
    · omega
    · omega
    · exact Prod.ext z a2.symm
  have ndm : ∀ l : List (Nat × Nat), l.Nodup → (∀ e, e ∈ l → e ∈ E) → (l.map c).Nodup := fun l => by
    induction l with
    | nil => intro _ _; exact List.nodup_nil
    | cons e l ih =>
      intro h1 h2
      rw [List.nodup_cons] at h1
      rw [List.map_cons, List.nodup_cons]
      refine ⟨fun z => ?_, ih h1.2 fun d hd => h2 d (List.mem_cons_of_mem _ hd)⟩
      obtain ⟨d, hd, e'⟩ := List.mem_map.mp z
      have := inj d e (h2 d (List.mem_cons_of_mem _ hd)) (h2 e (List.mem_cons_self ..)) e'
      rw [this] at hd
      exact h1.1 hd
  have hl : (E.map c).length ≤ ((List.range n).filter fun k => !decide (lab E k = k)).length := length_sub (ndm E nd fun e he => he) fun x hx => by
    obtain ⟨e, he, rfl⟩ := List.mem_map.mp hx
    have := hE e he
    refine List.mem_filter.mpr ⟨List.mem_range.mpr ?_, ?_⟩
    · rcases hc e he with ⟨z, _⟩ | ⟨z, _⟩ <;> rw [z] <;> omega
    · simp only [Bool.not_eq_true', decide_eq_false_iff_not]
      intro z
      have hn := hr (c e) (by rcases hc e he with ⟨z, _⟩ | ⟨z, _⟩ <;> rw [z] <;> omega) z
      rcases hc e he with ⟨_, y⟩ | ⟨_, y⟩ <;> rw [hn] at y <;> cases y
  rw [List.length_map, ← List.countP_eq_length_filter] at hl
  have := countP_not (p := fun k => decide (lab E k = k)) (List.range n)
  rw [List.length_range] at this
  unfold roots
  omega
/-! the law's labels -/
def lstep (f : Nat → Nat) (e : Nat × Nat) : Nat → Nat := fun k => if k = e.1 ∨ k = e.2 then min (f e.1) (f e.2) else f k
def lrnd (E : List (Nat × Nat)) (f : Nat → Nat) : Nat → Nat := E.foldl lstep f
def rnds (E : List (Nat × Nat)) : Nat → Nat → Nat
  | 0 => id
  | t + 1 => lrnd E (rnds E t)
structure Lb (E : List (Nat × Nat)) (f : Nat → Nat) : Prop where
  ge : ∀ k, lab E k ≤ f k
  cls : ∀ k, lab E (f k) = lab E k
theorem lstep_le (f : Nat → Nat) (e : Nat × Nat) (k : Nat) : lstep f e k ≤ f k := by
  unfold lstep
  split
  · rename_i h
    rcases h with rfl | rfl <;> omega
  · exact Nat.le_refl _
theorem lrnd_le : ∀ (E : List (Nat × Nat)) (f : Nat → Nat) (k : Nat), E.foldl lstep f k ≤ f k
  | [], f, k => Nat.le_refl _
  | e :: E, f, k => by
    rw [List.foldl_cons]
    exact Nat.le_trans (lrnd_le E _ k) (lstep_le f e k)
theorem lb_step {E : List (Nat × Nat)} {f : Nat → Nat} {e : Nat × Nat} (h : Lb E f) (he : e ∈ E) : Lb E (lstep f e) := by
  have hl := lab_edge he
  have c1 := h.cls e.1
  have c2 := h.cls e.2
  have g1 := h.ge e.1
  have g2 := h.ge e.2
  have hmin : lab E (min (f e.1) (f e.2)) = lab E e.1 := by
    rcases mm (f e.1) (f e.2) with ⟨_, z⟩ | ⟨_, z⟩ <;> rw [z]
    · rw [c2, hl]
    · exact c1
  refine ⟨fun k => ?_, fun k => ?_⟩ <;> unfold lstep <;> split
  · rename_i hk
    rcases hk with rfl | rfl <;> omega
  · exact h.ge k
  · rename_i hk
    rcases hk with rfl | rfl
    · exact hmin
    · rw [hmin, hl]
  · exact h.cls k
theorem lb_fold {E : List (Nat × Nat)} : ∀ {D : List (Nat × Nat)} {f : Nat → Nat}, (∀ e, e ∈ D → e ∈ E) → Lb E f → Lb E (D.foldl lstep f)
  | [], f, _, h => h
  | e :: D, f, s, h => by
    rw [List.foldl_cons]
    exact lb_fold (fun d hd => s d (List.mem_cons_of_mem _ hd)) (lb_step h (s e (List.mem_cons_self ..)))
theorem settle {E : List (Nat × Nat)} : ∀ {D : List (Nat × Nat)} {f : Nat → Nat} {e : Nat × Nat}, (∀ e, e ∈ D → e ∈ E) → Lb E f → e ∈ D → (f e.1 = lab E e.1 ∨ f e.2 = lab E e.2) → D.foldl lstep f e.1 = lab E e.1 ∧ D.foldl lstep f e.2 = lab E e.2
  | [], f, e, _, _, he, _ => by cases he
  | d :: D, f, e, s, h, he, hs => by
    have s' := fun d hd => s d (List.mem_cons_of_mem _ hd)
    have h' := lb_step h (s d (List.mem_cons_self ..))
    rw [List.foldl_cons]
    by_cases z : e ∈ D
    · refine settle s' h' z ?_
      rcases hs with hs | hs
      · exact .inl (by have := lstep_le f d e.1; have := h'.ge e.1; omega)
      · exact .inr (by have := lstep_le f d e.2; have := h'.ge e.2; omega)
    · have : e = d := (List.mem_cons.mp he).resolve_right z
      subst this
      have hl := lab_edge (s e (List.mem_cons_self ..))
      have f1 := lrnd_le D (lstep f e) e.1
      have f2 := lrnd_le D (lstep f e) e.2
      have F := lb_fold s' h'
      have g1 := F.ge e.1
      have g2 := F.ge e.2
      have k1 := h.ge e.1
      have k2 := h.ge e.2
      have e1 : lstep f e e.1 = min (f e.1) (f e.2) := if_pos (.inl rfl)
      have e2 : lstep f e e.2 = min (f e.1) (f e.2) := if_pos (.inr rfl)
      omega
theorem rnds_lb (E : List (Nat × Nat)) : ∀ t, Lb E (rnds E t)
  | 0 => ⟨lab_le E, fun k => rfl⟩
  | t + 1 => lb_fold (fun e he => he) (rnds_lb E t)
theorem rnds_le (E : List (Nat × Nat)) : ∀ t k, rnds E t k ≤ k
  | 0, k => Nat.le_refl k
  | t + 1, k => Nat.le_trans (lrnd_le E _ k) (rnds_le E t k)
theorem countP_lt {p q : Nat → Bool} (h : ∀ k, p k = true → q k = true) : ∀ {l : List Nat} {x : Nat}, x ∈ l → q x = true → p x = false → l.countP p < l.countP q
  | [], x, hx, _, _ => by cases hx
  | y :: l, x, hx, h1, h2 => by
    have le : ∀ l : List Nat, l.countP p ≤ l.countP q := fun l => List.countP_mono_left fun k _ => h k
    rw [List.countP_cons, List.countP_cons]
    rcases List.mem_cons.mp hx with rfl | hx
    · have := le l
      rw [h1, h2]
      simp
      omega
    · have := countP_lt h hx h1 h2
      by_cases hy : p y = true
      · rw [hy, h y hy]; omega
      · rw [if_neg hy]
        omega
theorem rnds_count {n : Nat} {E : List (Nat × Nat)} (hE : ∀ e, e ∈ E → e.1 < n ∧ e.2 < n) : ∀ t, (∀ k, k < n → rnds E t k = lab E k) ∨ t ≤ (List.range n).countP fun k => decide (rnds E t k = lab E k)
  | 0 => .inr (Nat.zero_le _)
  | t + 1 => by
    have B := rnds_lb E t
    have B' := rnds_lb E (t + 1)
    have keep : ∀ k, rnds E t k = lab E k → rnds E (t + 1) k = lab E k := fun k hk => by
      have h1 : rnds E (t + 1) k ≤ rnds E t k := lrnd_le E _ k
      have := B'.ge k
      omega
    rcases rnds_count hE t with h | h
    · exact .inl fun k hk => keep k (h k hk)
    · by_cases z : ∀ k, k < n → rnds E (t + 1) k = lab E k
      · exact .inl z
      · refine .inr ?_
        have z : ∃ k, k < n ∧ rnds E (t + 1) k ≠ lab E k := by
          refine Classical.byContradiction fun y => z fun k hk => Classical.byContradiction fun x => y ⟨k, hk, x⟩
        obtain ⟨k, hk, hne⟩ := z
        have hne' : rnds E t k ≠ lab E k := fun y => hne (keep k y)
        have hcl : ¬ Cl E fun x => rnds E t x = lab E x := fun c => hne' ((lab_cl c k).mpr (by
          show rnds E t (lab E k) = lab E (lab E k)
          have h1 := B.ge (lab E k)
          have h2 := rnds_le E t (lab E k)
          rw [lab_idem] at h1 ⊢
          omega))
        have hex : ∃ e, e ∈ E ∧ ¬ (rnds E t e.1 = lab E e.1 ↔ rnds E t e.2 = lab E e.2) := Classical.byContradiction fun y => hcl fun e he => Classical.byContradiction fun x => y ⟨e, he, x⟩
        obtain ⟨e, he, hx⟩ := hex
        have hs : rnds E t e.1 = lab E e.1 ∨ rnds E t e.2 = lab E e.2 := Classical.byContradiction fun y => hx ⟨fun a => absurd (.inl a) y, fun a => absurd (.inr a) y⟩
        obtain ⟨s1, s2⟩ := settle (fun d hd => hd) B he hs
        have kp : ∀ k, decide (rnds E t k = lab E k) = true → decide (rnds E (t + 1) k = lab E k) = true := fun k hk => decide_eq_true (keep k (of_decide_eq_true hk))
        have hb := hE e he
        by_cases a : rnds E t e.1 = lab E e.1
        · have b : rnds E t e.2 ≠ lab E e.2 := fun b => hx ⟨fun _ => b, fun _ => a⟩
          have := countP_lt kp (l := List.range n) (x := e.2) (List.mem_range.mpr hb.2) (decide_eq_true s2) (decide_eq_false b)
          omega
        · have := countP_lt kp (l := List.range n) (x := e.1) (List.mem_range.mpr hb.1) (decide_eq_true s1) (decide_eq_false a)
          omega
theorem rnds_all {n : Nat} {E : List (Nat × Nat)} (hE : ∀ e, e ∈ E → e.1 < n ∧ e.2 < n) {k : Nat} (hk : k < n) : rnds E n k = lab E k := by
  rcases rnds_count hE n with h | h
  · exact h k hk
  · have h2 := List.countP_le_length (p := fun k => decide (rnds E n k = lab E k)) (l := List.range n)
    rw [List.length_range] at h2
    have h3 : (List.range n).countP (fun k => decide (rnds E n k = lab E k)) = (List.range n).length := by rw [List.length_range]; omega
    exact of_decide_eq_true (List.countP_eq_length.mp h3 k (List.mem_range.mpr hk))
end Gr
/-! chains upward, rings -/
namespace Gr
/-- v, the one above it, .. up to a root -/
inductive Chn (P : Nat → Option Nat) : Nat → List Nat → Prop
  | root {v : Nat} : P v = none → Chn P v [v]
  | step {v p : Nat} {l : List Nat} : P v = some p → Chn P p l → Chn P v (v :: l)
def Pth (A : Nat → Nat → Prop) : List Nat → Prop
  | [] => True
  | [_] => True
  | a :: b :: r => A a b ∧ Pth A (b :: r)
section
variable {P : Nat → Option Nat} {A : Nat → Nat → Prop}
theorem Chn.det {v : Nat} {l : List Nat} (h : Chn P v l) : ∀ {m}, Chn P v m → l = m := by
  induction h with
  | root e =>
    intro m h
    cases h with
    | root => rfl
    | step e' _ => rw [e] at e'; cases e'
  | step e _ ih =>
    intro m h
    cases h with
    | root e' => rw [e] at e'; cases e'
    | step e' h' =>
      rw [e] at e'
      cases e'
      rw [ih h']
theorem Chn.hd {v : Nat} {l : List Nat} (h : Chn P v l) : ∃ r, l = v :: r := by
  cases h with
  | root => exact ⟨_, rfl⟩
  | step => exact ⟨_, rfl⟩
theorem Chn.suf {v : Nat} {l : List Nat} (h : Chn P v l) : ∀ {a : List Nat} {x : Nat} {r : List Nat}, l = a ++ x :: r → Chn P x (x :: r) := by
  induction h with
  | root e =>
    intro a x r h
    match a, h with
    | [], h => cases h; exact .root e
    | _ :: [], h => cases h
    | _ :: _ :: _, h => cases h
  | @step v p l e c ih =>
    intro a x r h
    match a, h with
    | [], h => cases h; exact .step e c
    | _ :: a, h =>
      injection h with h1 h2
      exact ih h2
theorem Chn.nodup {v : Nat} {l : List Nat} (h : Chn P v l) : l.Nodup := by
  induction h with
  | root => exact List.nodup_cons.mpr ⟨List.not_mem_nil, List.nodup_nil⟩
  | @step v p l e c ih =>
    refine List.nodup_cons.mpr ⟨fun hv => ?_, ih⟩
    obtain ⟨a, r, rfl⟩ := List.append_of_mem hv
    have h1 := c.suf rfl
    have h2 := congrArg List.length (h1.det (.step e c))
    simp at h2
    omega
theorem Chn.pth {v : Nat} {l : List Nat} (h : Chn P v l) (hA : ∀ v p, v ∈ l → P v = some p → A v p) : Pth A l := by
  induction h with
  | root => trivial
  | @step v p l e c ih =>
    have := ih fun v p hv => hA v p (List.mem_cons_of_mem _ hv)
    obtain ⟨r, rfl⟩ := c.hd
    exact ⟨hA _ _ (List.mem_cons_self ..) e, this⟩
theorem Pth.left : ∀ {l m : List Nat}, Pth A (l ++ m) → Pth A l
  | [], _, _ => trivial
  | [_], _, _ => trivial
  | a :: b :: r, m, h => ⟨h.1, Pth.left (l := b :: r) h.2⟩
theorem Pth.right : ∀ {l m : List Nat}, Pth A (l ++ m) → Pth A m
  | [], _, h => h
  | [a], [], _ => trivial
  | [a], _ :: _, h => h.2
  | a :: b :: r, m, h => Pth.right (l := b :: r) h.2
theorem Pth.join : ∀ {l m : List Nat} {c : Nat}, Pth A (l ++ [c]) → Pth A (c :: m) → Pth A (l ++ c :: m)
  | [], _, _, _, h => h
  | [a], m, c, h, h' => ⟨h.1, h'⟩
  | a :: b :: r, m, c, h, h' => ⟨h.1, Pth.join (l := b :: r) h.2 h'⟩
theorem Pth.rev (s : ∀ a b, A a b → A b a) : ∀ {l : List Nat}, Pth A l → Pth A l.reverse
  | [], _ => trivial
  | [_], _ => trivial
  | a :: b :: r, h => by
    have := Pth.rev s h.2
    rw [List.reverse_cons] at this ⊢
    rw [List.reverse_cons, List.append_assoc]
    exact Pth.join this ⟨s _ _ h.1, trivial⟩
theorem last_split {l : List Nat} {c : Nat} (h : l.getLast? = some c) : l = l.dropLast ++ [c] := by
  match l, h with
  | x :: r, h =>
    have e := List.dropLast_concat_getLast (l := x :: r) (by simp)
    rw [List.getLast?_eq_some_getLast (by simp)] at h
    injection h with h
    rw [h] at e
    exact e.symm
/-- two chains cut where they part: a ring -/
theorem ring_ok {one other : Nat} {L R C l r : List Nat} {c : Nat} (h1 : Chn P one L) (h2 : Chn P other R) (e1 : L = l ++ C) (e2 : R = r ++ C) (c1 : l.getLast? = some c) (c2 : r.getLast? = some c)
    (hend : ¬ (l.dropLast ≠ [] ∧ r.dropLast ≠ [] ∧ l.dropLast.getLast? = r.dropLast.getLast?)) (ne : one ≠ other) (n1 : P one ≠ some other) (n2 : P other ≠ some one) (s : ∀ a b, A a b → A b a)
    (hA1 : ∀ v p, v ∈ L → P v = some p → A v p) (hA2 : ∀ v p, v ∈ R → P v = some p → A v p) (hA : A other one) :
    (l ++ r.dropLast.reverse).Nodup ∧ 3 ≤ (l ++ r.dropLast.reverse).length ∧ (l ++ r.dropLast.reverse).head? = some one ∧ Pth A (l ++ r.dropLast.reverse ++ [one]) := by
  have s1 := last_split c1
  have s2 := last_split c2
  generalize l.dropLast = a at s1 hend ⊢
  generalize r.dropLast = b at s2 hend ⊢
  subst s1 s2
  have w1 : L = a ++ c :: C := by rw [e1]; simp
  have w2 : R = b ++ c :: C := by rw [e2]; simp
  have d1 := h1.nodup
  have d2 := h2.nodup
  have p1 := h1.pth hA1
  have p2 := h2.pth hA2
  obtain ⟨t1, g1⟩ := h1.hd
  obtain ⟨t2, g2⟩ := h2.hd
  rw [w1] at d1 p1 g1 h1
  rw [w2] at d2 p2 g2 h2
  obtain ⟨na, nc, nac⟩ := List.nodup_append.mp d1
  obtain ⟨nb, _, nbc⟩ := List.nodup_append.mp d2
  have dis : ∀ x, x ∈ a → x ∉ b := fun x ha hb => by
    obtain ⟨a1, a2, rfl⟩ := List.append_of_mem ha
    obtain ⟨b1, b2, rfl⟩ := List.append_of_mem hb
    have x1 := h1.suf (a := a1) (x := x) (r := a2 ++ c :: C) (by simp)
    have x2 := h2.suf (a := b1) (x := x) (r := b2 ++ c :: C) (by simp)
    have := x1.det x2
    injection this with _ this
    have := List.append_cancel_right this
    subst this
    refine hend ⟨by simp, by simp, ?_⟩
    rw [List.getLast?_append, List.getLast?_append, List.getLast?_eq_some_getLast (l := x :: a2) (by simp)]
    rfl
  have hd1 : (a ++ [c]).head? = some one := by
    match a, g1 with
    | [], g1 => injection g1 with g1; rw [g1]; rfl
    | x :: a, g1 => injection g1 with g1; rw [g1]; rfl
  refine ⟨?_, ?_, ?_, ?_⟩
  · rw [List.append_assoc, List.nodup_append]
    refine ⟨na, ?_, fun x hx y hy => ?_⟩
    · rw [List.nodup_append]
      refine ⟨List.nodup_cons.mpr ⟨List.not_mem_nil, List.nodup_nil⟩, List.pairwise_reverse.mpr (nb.imp Ne.symm), fun x hx y hy => ?_⟩
      rw [List.mem_singleton.mp hx]
      exact Ne.symm (nbc y (List.mem_reverse.mp hy) c (List.mem_cons_self ..))
    · rcases List.mem_append.mp hy with hy | hy
      · rw [List.mem_singleton.mp hy]
        exact nac x hx c (List.mem_cons_self ..)
      · intro z
        rw [← z] at hy
        exact dis x hx (List.mem_reverse.mp hy)
  · have k1 : a.length + b.length ≤ 1 → False := fun h => by
      match a, b, h with
      | [], [], _ =>
        injection g1 with g1
        injection g2 with g2
        exact ne (g1.symm.trans g2)
      | [x], [], _ =>
        injection g1 with g1 _
        injection g2 with g2 _
        cases h1 with
        | step e k =>
          obtain ⟨t, ht⟩ := k.hd
          injection ht with ht _
          rw [← ht, g2] at e
          rw [← g1] at n1
          exact n1 e
      | [], [x], _ =>
        injection g1 with g1 _
        injection g2 with g2 _
        cases h2 with
        | step e k =>
          obtain ⟨t, ht⟩ := k.hd
          injection ht with ht _
          rw [← ht, g1] at e
          rw [← g2] at n2
          exact n2 e
      | _ :: _ :: _, b, h => simp at h; omega
      | [_], _ :: _, h => simp at h; omega
      | [], _ :: _ :: _, h => simp at h
    have k2 : ¬ a.length + b.length ≤ 1 := k1
    simp only [List.length_append, List.length_cons, List.length_nil, List.length_reverse]
    omega
  · rw [List.head?_append, hd1]
    rfl
  · have q1 : Pth A (a ++ [c]) := by
      have : a ++ c :: C = (a ++ [c]) ++ C := by simp
      rw [this] at p1
      exact p1.left
    have q2 : Pth A (c :: b.reverse) := by
      have : b ++ c :: C = (b ++ [c]) ++ C := by simp
      rw [this] at p2
      have := Pth.rev s p2.left
      rw [List.reverse_append] at this
      exact this
    have q3 : Pth A (a ++ c :: b.reverse) := q1.join q2
    have e : a ++ [c] ++ b.reverse ++ [one] = (a ++ c :: b.reverse) ++ [one] := by simp
    rw [e]
    have last : ∃ z, a ++ c :: b.reverse = z ++ [other] := by
      match b, g2 with
      | [], g2 =>
        injection g2 with g2 _
        exact ⟨a, by rw [g2]; rfl⟩
      | x :: b, g2 =>
        injection g2 with g2 _
        exact ⟨a ++ c :: b.reverse, by rw [g2]; simp⟩
    obtain ⟨z, hz⟩ := last
    rw [hz] at q3 ⊢
    rw [List.append_assoc]
    exact Pth.join q3 ⟨hA, trivial⟩
end
end Gr
/-! searches through a graph -/
namespace Gr
def nb (E : List (Nat × Nat)) (k : Nat) : List Nat := E.flatMap fun e => (if e.1 = k then [e.2] else []) ++ (if e.2 = k then [e.1] else [])
def Nb (E : List (Nat × Nat)) (k o : Nat) : Prop := (k, o) ∈ E ∨ (o, k) ∈ E
structure Ed (n : Nat) (E : List (Nat × Nat)) : Prop where
  lt : ∀ e, e ∈ E → e.1 < e.2 ∧ e.2 < n
  nd : E.Nodup
theorem Ed.bd {n : Nat} {E : List (Nat × Nat)} (h : Ed n E) : ∀ e, e ∈ E → e.1 < n ∧ e.2 < n := fun e he => by
  have := h.lt e he
  omega
theorem Nb.symm {E : List (Nat × Nat)} {k o : Nat} (h : Nb E k o) : Nb E o k := h.elim .inr .inl
theorem mem_nb {E : List (Nat × Nat)} {k o : Nat} : o ∈ nb E k ↔ Nb E k o := by
  unfold nb Nb
  rw [List.mem_flatMap]
  constructor
  · rintro ⟨⟨a, b⟩, he, h⟩
    rcases List.mem_append.mp h with h | h
    · split at h
      · rename_i z
        have z : a = k := z
        have h := List.mem_singleton.mp h
        rw [h, ← z]
        exact .inl he
      · cases h
    · split at h
      · rename_i z
        have z : b = k := z
        have h := List.mem_singleton.mp h
        rw [h, ← z]
        exact .inr he
      · cases h
  · rintro (h | h)
    · exact ⟨_, h, List.mem_append_left _ (by rw [if_pos rfl]; exact List.mem_singleton.mpr rfl)⟩
    · exact ⟨_, h, List.mem_append_right _ (by rw [if_pos rfl]; exact List.mem_singleton.mpr rfl)⟩
theorem nb_nodup {k : Nat} : ∀ {E : List (Nat × Nat)}, (∀ e, e ∈ E → e.1 < e.2) → E.Nodup → (nb E k).Nodup
  | [], _, _ => List.nodup_nil
  | (a, b) :: E, h, nd => by
    rw [List.nodup_cons] at nd
    have ih := nb_nodup (k := k) (E := E) (fun e he => h e (List.mem_cons_of_mem _ he)) nd.2
    have lt : a < b := h (a, b) (List.mem_cons_self ..)
    have h' : ∀ x y, (x, y) ∈ E → x < y := fun x y hx => h (x, y) (List.mem_cons_of_mem _ hx)
    have e : nb ((a, b) :: E) k = ((if a = k then [b] else []) ++ (if b = k then [a] else [])) ++ nb E k := by unfold nb; rw [List.flatMap_cons]
    rw [e, List.nodup_append]
    refine ⟨?_, ih, fun x hx y hy z => ?_⟩
    · split <;> split <;> first | omega | simp
    · subst z
      have hy := mem_nb.mp hy
      rcases List.mem_append.mp hx with hx | hx
      · split at hx
        · rename_i z
          have hx' := List.mem_singleton.mp hx
          clear hx
          subst z
          subst hx'
          rcases hy with hy | hy
          · exact nd.1 hy
          · have := h' _ _ hy; omega
        · cases hx
      · split at hx
        · rename_i z
          have hx' := List.mem_singleton.mp hx
          clear hx
          subst z
          subst hx'
          rcases hy with hy | hy
          · have := h' _ _ hy; omega
          · exact nd.1 hy
        · cases hx
theorem lab_nb {E : List (Nat × Nat)} {k o : Nat} (h : Nb E k o) : lab E k = lab E o := h.elim (fun h => lab_edge (e := (k, o)) h) fun h => (lab_edge (e := (o, k)) h).symm
theorem cl_nb {E : List (Nat × Nat)} {S : Nat → Prop} (h : ∀ k o, Nb E k o → S k → S o) : Cl E S := fun e he => ⟨h e.1 e.2 (.inl he), h e.2 e.1 (.inr he)⟩
theorem lab_out {n : Nat} {E : List (Nat × Nat)} (hE : ∀ e, e ∈ E → e.1 < n ∧ e.2 < n) {k : Nat} (hk : n ≤ k) : lab E k = k :=
  (lab_cl (E := E) (S := fun x => x = k) (fun e he => by have := hE e he; constructor <;> intro z <;> omega) k).mp rfl
/-! parts -/
def keep (rem : Nat → Bool) (E : List (Nat × Nat)) : List (Nat × Nat) := E.filter fun e => !rem e.1 && !rem e.2
theorem Ed.keep {n : Nat} {E : List (Nat × Nat)} (h : Ed n E) (rem : Nat → Bool) : Ed n (keep rem E) := ⟨fun e he => h.lt e (List.mem_filter.mp he).1, List.Pairwise.filter _ h.nd⟩
theorem lab_rem {rem : Nat → Bool} {E : List (Nat × Nat)} {k : Nat} (h : rem k = true) : lab (keep rem E) k = k :=
  (lab_cl (E := keep rem E) (S := fun x => x = k) (fun e he => by
    have := (List.mem_filter.mp he).2
    simp at this
    constructor
    · intro z; rw [z, h] at this; exact absurd this.1 (by decide)
    · intro z; rw [z, h] at this; exact absurd this.2 (by decide)) k).mp rfl
/-- what is seen when the roots below m were taken -/
def Seen (rem : Nat → Bool) (E : List (Nat × Nat)) (m k : Nat) : Prop := rem k = true ∨ lab (keep rem E) k < m
structure Bf (rem : Nat → Bool) (E : List (Nat × Nat)) (n root : Nat) (row : List Nat) (i : Nat) (part : List Nat) : Prop where
  nd : row.Nodup
  hd : root ∈ row
  lt : ∀ k, k ∈ row → k < n
  cls : ∀ k, k ∈ row → lab (keep rem E) k = root
  out : ∀ k, k ∈ row → rem k = false
  done : ∀ j r, j < i → row[j]? = some r → ∀ o, Nb E r o → Seen rem E root o ∨ o ∈ row
  part : ∀ o, o ∈ part → Seen rem E root o ∨ o ∈ row
section
variable {rem : Nat → Bool} {E : List (Nat × Nat)} {n root i r o : Nat} {row part : List Nat}
theorem Bf.start (h : ¬ Seen rem E root root) (hn : root < n) : Bf rem E n root [root] 0 [] := by
  have h1 : rem root = false := by
    cases e : rem root with
    | true => exact absurd (.inl e) h
    | false => rfl
  have h2 : lab (keep rem E) root = root := by
    have := lab_le (keep rem E) root
    by_cases z : lab (keep rem E) root < root
    · exact absurd (.inr z) h
    · omega
  refine ⟨List.nodup_cons.mpr ⟨List.not_mem_nil, List.nodup_nil⟩, List.mem_singleton.mpr rfl, fun k hk => ?_, fun k hk => ?_, fun k hk => ?_, fun j r hj => by omega, fun o ho => by cases ho⟩ <;> rw [List.mem_singleton.mp hk] <;> assumption
theorem Bf.skip (B : Bf rem E n root row i part) (h : Seen rem E root o ∨ o ∈ row) : Bf rem E n root row i (part ++ [o]) :=
  ⟨B.nd, B.hd, B.lt, B.cls, B.out, B.done, fun x hx => (List.mem_append.mp hx).elim (B.part x) fun hx => by rw [List.mem_singleton.mp hx]; exact h⟩
theorem Bf.add (B : Bf rem E n root row i part) (hr : row[i]? = some r) (hN : Nb E r o) (hn : o < n) (h : ¬ Seen rem E root o) (hm : o ∉ row) : Bf rem E n root (row ++ [o]) i (part ++ [o]) := by
  have hrm := List.mem_of_getElem? hr
  have hro : rem o = false := by
    cases e : rem o with
    | true => exact absurd (.inl e) h
    | false => rfl
  have hlab : lab (keep rem E) o = root := by
    rw [← B.cls r hrm]
    refine lab_nb ?_
    have h1 := B.out r hrm
    rcases hN with z | z
    · exact .inr (List.mem_filter.mpr ⟨z, by simp [h1, hro]⟩)
    · exact .inl (List.mem_filter.mpr ⟨z, by simp [h1, hro]⟩)
  have up : ∀ {x : Nat}, Seen rem E root x ∨ x ∈ row → Seen rem E root x ∨ x ∈ row ++ [o] := fun z => z.imp id (List.mem_append_left _)
  refine ⟨List.nodup_append.mpr ⟨B.nd, List.nodup_cons.mpr ⟨List.not_mem_nil, List.nodup_nil⟩, fun a ha b hb z => hm (by rw [← List.mem_singleton.mp hb, ← z]; exact ha)⟩, List.mem_append_left _ B.hd, fun k hk => ?_, fun k hk => ?_, fun k hk => ?_, fun j x hj hx y hy => ?_, fun x hx => ?_⟩
  · exact (List.mem_append.mp hk).elim (B.lt k) fun z => by rw [List.mem_singleton.mp z]; exact hn
  · exact (List.mem_append.mp hk).elim (B.cls k) fun z => by rw [List.mem_singleton.mp z]; exact hlab
  · exact (List.mem_append.mp hk).elim (B.out k) fun z => by rw [List.mem_singleton.mp z]; exact hro
  · have hi := (List.getElem?_eq_some_iff.mp hr).1
    rw [List.getElem?_append_left (by omega)] at hx
    exact up (B.done j x hj hx y hy)
  · rcases List.mem_append.mp hx with hx | hx
    · exact up (B.part x hx)
    · exact .inr (List.mem_append_right _ hx)
theorem Bf.next (B : Bf rem E n root row i part) (hr : row[i]? = some r) (hp : ∀ o, Nb E r o → o ∈ part) : Bf rem E n root row (i + 1) [] :=
  ⟨B.nd, B.hd, B.lt, B.cls, B.out, fun j x hj hx o ho => by
    by_cases z : j = i
    · subst z
      rw [hr] at hx
      cases hx
      exact B.part o (hp o ho)
    · exact B.done j x (by omega) hx o ho, fun o ho => by cases ho⟩
theorem Bf.all (B : Bf rem E n root row row.length []) (hE : Ed n E) {k : Nat} : k ∈ row ↔ lab (keep rem E) k = root := by
  refine ⟨B.cls k, fun h => ?_⟩
  have c : Cl (keep rem E) fun x => x ∈ row := cl_nb fun x o hN hx => by
    obtain ⟨j, hj, hxj⟩ := List.getElem_of_mem hx
    have hN' : Nb E x o := hN.imp (fun z => (List.mem_filter.mp z).1) fun z => (List.mem_filter.mp z).1
    rcases B.done j x hj (by rw [List.getElem?_eq_getElem hj, hxj]) o hN' with z | z
    · rcases z with z | z
      · exfalso
        rcases hN with y | y
        · have := (List.mem_filter.mp y).2
          simp at this
          rw [this.2] at z
          cases z
        · have := (List.mem_filter.mp y).2
          simp at this
          rw [this.1] at z
          cases z
      · rw [← lab_nb hN, B.cls x hx] at z
        omega
    · exact z
  have := (lab_cl c k).mpr (by rw [h]; exact B.hd)
  exact this
theorem Bf.seen (B : Bf rem E n root row row.length []) (hE : Ed n E) {k : Nat} : (Seen rem E root k ∨ k ∈ row) ↔ Seen rem E (root + 1) k := by
  rw [B.all hE]
  unfold Seen
  constructor
  · rintro ((h | h) | h)
    · exact .inl h
    · exact .inr (by omega)
    · exact .inr (by omega)
  · rintro (h | h)
    · exact .inl (.inl h)
    · by_cases z : lab (keep rem E) k = root
      · exact .inr z
      · exact .inl (.inr (by omega))
theorem seen_root : ¬ Seen rem E root root ↔ (lab (keep rem E) root = root ∧ rem root = false) := by
  unfold Seen
  have := lab_le (keep rem E) root
  constructor
  · intro h
    refine ⟨?_, ?_⟩
    · by_cases z : lab (keep rem E) root < root
      · exact absurd (.inr z) h
      · omega
    · cases e : rem root with
      | true => exact absurd (.inl e) h
      | false => rfl
  · rintro ⟨h1, h2⟩ (h | h)
    · rw [h2] at h; cases h
    · omega
theorem seen_skip (h : Seen rem E root root) {k : Nat} : Seen rem E root k ↔ Seen rem E (root + 1) k := by
  unfold Seen at *
  constructor
  · rintro (h | h)
    · exact .inl h
    · exact .inr (by omega)
  · rintro (h' | h')
    · exact .inl h'
    · by_cases z : lab (keep rem E) k = root
      · rcases h with h | h
        · by_cases y : k = root
          · rw [y]; exact .inl h
          · exfalso
            have := lab_idem (keep rem E) k
            rw [z] at this
            -- root is taken out: it stands alone
            have c := (lab_cl (E := keep rem E) (S := fun x => x = root) (fun e he => by
              have q := (List.mem_filter.mp he).2
              simp at q
              constructor
              · intro w; rw [w, h] at q; exact absurd q.1 (by decide)
              · intro w; rw [w, h] at q; exact absurd q.2 (by decide)) k).mpr z
            exact y c
        · exfalso
          have := lab_idem (keep rem E) k
          rw [z] at this
          omega
      · exact .inr (by omega)
/-- the parts whose least place is below m -/
def parts (rem : Nat → Bool) (E : List (Nat × Nat)) (n m : Nat) : List (List Nat) := ((List.range m).filter fun r => decide (lab (keep rem E) r = r) && !rem r).map fun r => (List.range n).filter fun k => decide (lab (keep rem E) k = r)
end
/-! trees -/
abbrev Tr := List (Nat × Option Nat)
def up (tr : Tr) (v : Nat) : Option Nat := (tr.lookup v).join
theorem lookup_of {tr : Tr} {v : Nat} {q : Option Nat} : (tr.map (·.1)).Nodup → (v, q) ∈ tr → tr.lookup v = some q := by
  induction tr with
  | nil => intro _ h; cases h
  | cons x tr ih =>
    intro nd h
    rw [List.map_cons, List.nodup_cons] at nd
    obtain ⟨a, b⟩ := x
    rw [List.lookup_cons]
    rcases List.mem_cons.mp h with h | h
    · cases h
      simp
    · have : v ≠ a := fun z => nd.1 (List.mem_map.mpr ⟨_, h, z⟩)
      have e : (v == a) = false := by simp [this]
      rw [e]
      exact ih nd.2 h
theorem of_lookup {tr : Tr} {v : Nat} {q : Option Nat} : tr.lookup v = some q → (v, q) ∈ tr := by
  induction tr with
  | nil => intro h; cases h
  | cons x tr ih =>
    obtain ⟨a, b⟩ := x
    rw [List.lookup_cons]
    intro h
    split at h
    · rename_i z
      have z : v = a := by simpa using z
      cases h
      rw [z]
      exact List.mem_cons_self ..
    · exact List.mem_cons_of_mem _ (ih h)
theorem up_some {tr : Tr} (nd : (tr.map (·.1)).Nodup) {v p : Nat} : up tr v = some p ↔ (v, some p) ∈ tr := by
  unfold up
  constructor
  · intro h
    cases e : tr.lookup v with
    | none => rw [e] at h; cases h
    | some q =>
      rw [e] at h
      have h : q = some p := h
      rw [h] at e
      exact of_lookup e
  · intro h
    rw [lookup_of nd h]
    rfl
theorem up_none {tr : Tr} (nd : (tr.map (·.1)).Nodup) {v : Nat} (h : (v, none) ∈ tr) : up tr v = none := by
  unfold up
  rw [lookup_of nd h]
  rfl
theorem one_key {tr : Tr} (nd : (tr.map (·.1)).Nodup) {v : Nat} {p q : Option Nat} (h : (v, p) ∈ tr) (k : (v, q) ∈ tr) : p = q := by
  have := (lookup_of nd h).symm.trans (lookup_of nd k)
  injection this
/-- the trees that are done -/
structure Fo (E : List (Nat × Nat)) (n m : Nat) (tr : Tr) : Prop where
  nd : (tr.map (·.1)).Nodup
  lt : ∀ v q, (v, q) ∈ tr → v < n
  low : ∀ v, v < m → v ∈ tr.map (·.1)
  done : ∀ v q, (v, q) ∈ tr → ∀ o, Nb E v o → (o, some v) ∈ tr ∨ (v, some o) ∈ tr
  rts : ∀ v q, (v, q) ∈ tr → lab E v = v → q = none
  edge : ∀ v p, (v, some p) ∈ tr → p ∈ tr.map (·.1)
theorem Fo.start {E : List (Nat × Nat)} {n : Nat} : Fo E n 0 [] := ⟨List.nodup_nil, fun v q h => (List.not_mem_nil h).elim, fun v h => (Nat.not_lt_zero _ h).elim, fun v q h => (List.not_mem_nil h).elim, fun v q h => (List.not_mem_nil h).elim, fun v p h => (List.not_mem_nil h).elim⟩
theorem Fo.skip {E : List (Nat × Nat)} {n m : Nat} {tr : Tr} (F : Fo E n m tr) (h : m ∈ tr.map (·.1)) : Fo E n (m + 1) tr := ⟨F.nd, F.lt, fun v hv => by
  by_cases z : v = m
  · rw [z]; exact h
  · exact F.low v (by omega), F.done, F.rts, F.edge⟩
theorem Fo.closed {E : List (Nat × Nat)} {n m : Nat} {tr : Tr} (F : Fo E n m tr) {v o : Nat} (hv : v ∈ tr.map (·.1)) (h : Nb E v o) : o ∈ tr.map (·.1) := by
  obtain ⟨⟨v, q⟩, hq, rfl⟩ := List.mem_map.mp hv
  rcases F.done v q hq o h with z | z
  · exact List.mem_map.mpr ⟨_, z, rfl⟩
  · exact F.edge v o z
theorem Fo.all {E : List (Nat × Nat)} {n : Nat} {tr : Tr} (F : Fo E n n tr) (hE : Ed n E) : E.length + roots n E = n := by
  have h1 := roots_ge hE.bd
  have h2 := roots_forest (n := n) (E := E) (par := up tr) hE.lt hE.nd (fun e he => by
    have lt := hE.lt e he
    have hk := F.low e.1 (by omega)
    obtain ⟨⟨v, q⟩, hq, hv⟩ := List.mem_map.mp hk
    have hv : v = e.1 := hv
    subst hv
    rcases F.done _ q hq e.2 (.inl he) with z | z
    · exact .inl ((up_some F.nd).mpr z)
    · exact .inr ((up_some F.nd).mpr z)) (fun v hv hl => by
    obtain ⟨⟨v, q⟩, hq, rfl⟩ := List.mem_map.mp (F.low v hv)
    have := F.rts v q hq hl
    subst this
    exact up_none F.nd hq)
  omega
/-- the least place that is not in a tree is the least of its part -/
theorem Fo.root {E : List (Nat × Nat)} {n m : Nat} {tr : Tr} (F : Fo E n m tr) (h : m ∉ tr.map (·.1)) : lab E m = m := by
  have := lab_le E m
  by_cases z : lab E m < m
  · exfalso
    have c : Cl E fun x => x ∈ tr.map (·.1) := cl_nb fun k o hN hk => F.closed hk hN
    exact h ((lab_cl c m).mpr (F.low _ z))
  · omega
/-- a tree that grows -/
structure Sp (E : List (Nat × Nat)) (n root : Nat) (tr new : Tr) (i : Nat) (part : List Nat) : Prop where
  nd : ((tr ++ new).map (·.1)).Nodup
  lt : ∀ v q, (v, q) ∈ new → v < n
  hd : new[0]? = some (root, none)
  rts : ∀ v, (v, none) ∈ new → v = root
  cls : ∀ v q, (v, q) ∈ new → lab E v = root
  adj : ∀ v p, (v, some p) ∈ new → Nb E p v
  idx : ∀ k v p, new[k]? = some (v, some p) → ∃ j q, j < k ∧ j ≤ i ∧ new[j]? = some (p, q)
  kids : ∀ v p q, (v, some p) ∈ new → new[i]? = some (p, q) → v ∈ part
  done : ∀ j r q, j < i → new[j]? = some (r, q) → ∀ o, Nb E r o → (o, some r) ∈ new ∨ (r, some o) ∈ new
  part : ∀ r q, new[i]? = some (r, q) → ∀ o, o ∈ part → (o, some r) ∈ new ∨ (r, some o) ∈ new
section
variable {E : List (Nat × Nat)} {n root i r o : Nat} {tr new : Tr} {part : List Nat} {q : Option Nat}
theorem Sp.start (F : Fo E n root tr) (h : root ∉ tr.map (·.1)) (hn : root < n) : Sp E n root tr [(root, none)] 0 [] := by
  have hl := F.root h
  refine ⟨?_, ?_, rfl, ?_, ?_, ?_, ?_, ?_, fun j r q hj => by omega, fun r q _ o ho => by cases ho⟩
  · rw [List.map_append]
    refine List.nodup_append.mpr ⟨F.nd, List.nodup_cons.mpr ⟨List.not_mem_nil, List.nodup_nil⟩, fun a ha b hb z => ?_⟩
    have hb : b = root := List.mem_singleton.mp hb
    rw [z, hb] at ha
    exact h ha
  · intro v q hv
    cases List.mem_singleton.mp hv
    exact hn
  · intro v hv
    cases List.mem_singleton.mp hv
    rfl
  · intro v q hv
    cases List.mem_singleton.mp hv
    exact hl
  · intro v p hv
    cases List.mem_singleton.mp hv
  · intro k v p hk
    cases List.mem_singleton.mp (List.mem_of_getElem? hk)
  · intro v p q hv
    cases List.mem_singleton.mp hv
theorem Sp.skip (S : Sp E n root tr new i part) (hr : new[i]? = some (r, some o)) : Sp E n root tr new i (part ++ [o]) :=
  ⟨S.nd, S.lt, S.hd, S.rts, S.cls, S.adj, S.idx, fun v p q hv hp => List.mem_append_left _ (S.kids v p q hv hp), S.done, fun r' q' hr' x hx => by
    rcases List.mem_append.mp hx with hx | hx
    · exact S.part r' q' hr' x hx
    · rw [hr] at hr'
      cases hr'
      rw [List.mem_singleton.mp hx]
      exact .inr (List.mem_of_getElem? hr)⟩
theorem Sp.add (S : Sp E n root tr new i part) (hr : new[i]? = some (r, q)) (hN : Nb E r o) (hn : o < n) (hm : o ∉ (tr ++ new).map (·.1)) : Sp E n root tr (new ++ [(o, some r)]) i (part ++ [o]) := by
  have hi := (List.getElem?_eq_some_iff.mp hr).1
  have hrm := List.mem_of_getElem? hr
  have old : ∀ {j : Nat} {x : Nat × Option Nat}, j ≤ i → (new ++ [(o, some r)])[j]? = some x → new[j]? = some x := fun {j x} hj hx => by
    rw [List.getElem?_append_left (by omega)] at hx
    exact hx
  have keep : ∀ {x y : Nat × Option Nat}, x ∈ new ∨ y ∈ new → x ∈ new ++ [(o, some r)] ∨ y ∈ new ++ [(o, some r)] := fun z => z.imp (List.mem_append_left _) (List.mem_append_left _)
  refine ⟨?_, ?_, ?_, ?_, ?_, ?_, ?_, ?_, ?_, ?_⟩
  · rw [← List.append_assoc, List.map_append]
    refine List.nodup_append.mpr ⟨S.nd, List.nodup_cons.mpr ⟨List.not_mem_nil, List.nodup_nil⟩, fun a ha b hb z => ?_⟩
    have hb : b = o := List.mem_singleton.mp hb
    rw [z, hb] at ha
    exact hm ha
  · intro v q hv
    rcases List.mem_append.mp hv with hv | hv
    · exact S.lt v q hv
    · cases List.mem_singleton.mp hv
      exact hn
  · have := S.hd
    rw [List.getElem?_append_left (by omega)]
    exact this
  · intro v hv
    rcases List.mem_append.mp hv with hv | hv
    · exact S.rts v hv
    · cases List.mem_singleton.mp hv
  · intro v q hv
    rcases List.mem_append.mp hv with hv | hv
    · exact S.cls v q hv
    · cases List.mem_singleton.mp hv
      rw [← lab_nb hN]
      exact S.cls _ _ hrm
  · intro v p hv
    rcases List.mem_append.mp hv with hv | hv
    · exact S.adj v p hv
    · cases List.mem_singleton.mp hv
      exact hN
  · intro k v p hk
    by_cases z : k < new.length
    · rw [List.getElem?_append_left z] at hk
      obtain ⟨j, q', h1, h2, h3⟩ := S.idx k v p hk
      exact ⟨j, q', h1, h2, by rw [List.getElem?_append_left (by omega)]; exact h3⟩
    · rw [List.getElem?_append_right (by omega)] at hk
      have hk0 : k - new.length = 0 := by
        have := (List.getElem?_eq_some_iff.mp hk).1
        simp at this
        omega
      rw [hk0] at hk
      cases hk
      exact ⟨i, q, by omega, Nat.le_refl _, by rw [List.getElem?_append_left hi]; exact hr⟩
  · intro v p q' hv hp
    rcases List.mem_append.mp hv with hv | hv
    · exact List.mem_append_left _ (S.kids v p q' hv (old (Nat.le_refl _) hp))
    · cases List.mem_singleton.mp hv
      exact List.mem_append_right _ (List.mem_singleton.mpr rfl)
  · intro j r' q' hj hr' x hx
    exact keep (S.done j r' q' hj (old (by omega) hr') x hx)
  · intro r' q' hr' x hx
    have hr'' := old (Nat.le_refl _) hr'
    rcases List.mem_append.mp hx with hx | hx
    · exact keep (S.part r' q' hr'' x hx)
    · rw [hr] at hr''
      cases hr''
      rw [List.mem_singleton.mp hx]
      exact .inl (List.mem_append_right _ (List.mem_singleton.mpr rfl))
theorem Sp.key (S : Sp E n root tr new i part) {j k v : Nat} {p q : Option Nat} (h : new[j]? = some (v, p)) (h' : new[k]? = some (v, q)) : j = k := by
  have nd := S.nd
  rw [List.map_append] at nd
  have nd := (List.nodup_append.mp nd).2.1
  have a : (new.map (·.1))[j]? = some v := by rw [List.getElem?_map, h]; rfl
  have b : (new.map (·.1))[k]? = some v := by rw [List.getElem?_map, h']; rfl
  exact (List.getElem?_inj (List.getElem?_eq_some_iff.mp a).1 nd).mp (by rw [a, b])
theorem Sp.next (S : Sp E n root tr new i part) (hr : new[i]? = some (r, q)) (hp : ∀ o, Nb E r o → o ∈ part) : Sp E n root tr new (i + 1) [] :=
  ⟨S.nd, S.lt, S.hd, S.rts, S.cls, S.adj, fun k v p hk => by
    obtain ⟨j, q', h1, h2, h3⟩ := S.idx k v p hk
    exact ⟨j, q', h1, by omega, h3⟩, fun v p q' hv hp' => by
    exfalso
    obtain ⟨k, hk, e⟩ := List.getElem_of_mem hv
    obtain ⟨j, q'', h1, h2, h3⟩ := S.idx k v p (by rw [List.getElem?_eq_getElem hk, e])
    have := S.key h3 hp'
    omega, fun j r' q' hj hr' o ho => by
    by_cases z : j = i
    · subst z
      rw [hr] at hr'
      cases hr'
      exact S.part _ _ hr o (hp o ho)
    · exact S.done j r' q' (by omega) hr' o ho, fun _ _ _ o ho => by cases ho⟩
theorem Sp.end_ (S : Sp E n root tr new new.length []) (F : Fo E n root tr) : Fo E n (root + 1) (tr ++ new) := by
  have inr : ∀ {x y : Nat × Option Nat}, x ∈ new ∨ y ∈ new → x ∈ tr ++ new ∨ y ∈ tr ++ new := fun z => z.imp (List.mem_append_right _) (List.mem_append_right _)
  have inl : ∀ {x y : Nat × Option Nat}, x ∈ tr ∨ y ∈ tr → x ∈ tr ++ new ∨ y ∈ tr ++ new := fun z => z.imp (List.mem_append_left _) (List.mem_append_left _)
  refine ⟨S.nd, ?_, ?_, ?_, ?_, ?_⟩
  · intro v q hv
    exact (List.mem_append.mp hv).elim (F.lt v q) (S.lt v q)
  · intro v hv
    rw [List.map_append]
    by_cases z : v = root
    · exact List.mem_append_right _ (List.mem_map.mpr ⟨_, List.mem_of_getElem? S.hd, z.symm⟩)
    · exact List.mem_append_left _ (F.low v (by omega))
  · intro v q hv o ho
    rcases List.mem_append.mp hv with hv | hv
    · exact inl (F.done v q hv o ho)
    · obtain ⟨j, hj, e⟩ := List.getElem_of_mem hv
      exact inr (S.done j v q hj (by rw [List.getElem?_eq_getElem hj, e]) o ho)
  · intro v q hv hl
    rcases List.mem_append.mp hv with hv | hv
    · exact F.rts v q hv hl
    · have h1 := S.cls v q hv
      have nd := S.nd
      rw [List.map_append] at nd
      have nd := (List.nodup_append.mp nd).2.1
      have h2 := List.mem_of_getElem? S.hd
      rw [hl] at h1
      subst h1
      exact one_key nd hv h2
  · intro v p hv
    rw [List.map_append]
    rcases List.mem_append.mp hv with hv | hv
    · exact List.mem_append_left _ (F.edge v p hv)
    · obtain ⟨j, hj, e⟩ := List.getElem_of_mem hv
      obtain ⟨k, q, _, _, h3⟩ := S.idx j v p (by rw [List.getElem?_eq_getElem hj, e])
      exact List.mem_append_right _ (List.mem_map.mpr ⟨_, List.mem_of_getElem? h3, rfl⟩)
theorem Sp.chn (S : Sp E n root tr new i part) : ∀ (k : Nat) (v : Nat) (q : Option Nat), new[k]? = some (v, q) → ∃ L, Chn (up (tr ++ new)) v L ∧ L.getLast? = some root ∧ ∀ x, x ∈ L → ∃ p, (x, p) ∈ new := fun k => by
  induction k using Nat.strongRecOn with
  | _ k ih =>
    intro v q hk
    have hm := List.mem_of_getElem? hk
    cases q with
    | none =>
      have := S.rts v hm
      subst this
      exact ⟨[v], .root (up_none S.nd (List.mem_append_right _ hm)), rfl, fun x hx => by rw [List.mem_singleton.mp hx]; exact ⟨_, hm⟩⟩
    | some p =>
      obtain ⟨j, q', h1, _, h3⟩ := S.idx k v p hk
      obtain ⟨L, hL, hl, hx⟩ := ih j h1 p q' h3
      refine ⟨v :: L, .step ((up_some S.nd).mpr (List.mem_append_right _ hm)) hL, ?_, fun x hx' => ?_⟩
      · obtain ⟨t, rfl⟩ := hL.hd
        rw [List.getLast?_cons_cons]
        exact hl
      · rcases List.mem_cons.mp hx' with rfl | hx'
        · exact ⟨_, hm⟩
        · exact hx x hx'
theorem chn_lab {P : Nat → Option Nat} {D : List (Nat × Nat)} {v w : Nat} {L : List Nat} (h : Chn P v L) (hl : L.getLast? = some w) (hD : ∀ x p, x ∈ L → P x = some p → Nb D p x) : lab D v = lab D w := by
  induction h with
  | root e => cases hl; rfl
  | @step v p l e c ih =>
    obtain ⟨t, rfl⟩ := c.hd
    rw [List.getLast?_cons_cons] at hl
    rw [← ih hl fun x q hx => hD x q (List.mem_cons_of_mem _ hx)]
    exact (lab_nb (hD v p (List.mem_cons_self ..) e)).symm
/-- a tie that closes a ring: what ring_of makes of it -/
structure Closing (E : List (Nat × Nat)) (n : Nat) (Kp : Nat → Prop) (P : Nat → Option Nat) (one other : Nat) : Prop where
  ex : ∃ (L R : List Nat) (w : Nat), Chn P one L ∧ Chn P other R ∧ L.getLast? = some w ∧ R.getLast? = some w ∧ (∀ x, x ∈ L → x < n ∧ Kp x) ∧ (∀ x, x ∈ R → x < n ∧ Kp x) ∧ (∀ x p, x ∈ L → P x = some p → Nb E x p) ∧ (∀ x p, x ∈ R → P x = some p → Nb E x p)
  ne : one ≠ other
  n1 : P one ≠ some other
  n2 : P other ≠ some one
  nb : Nb E other one
  many : n < roots n E + E.length
theorem Sp.closing (S : Sp E n root tr new i part) (F : Fo E n root tr) (hE : Ed n E) (hr : new[i]? = some (r, q)) (hN : Nb E r o) (hm : o ∈ (tr ++ new).map (·.1)) (hq : q ≠ some o) (hp : o ∉ part) : Closing E n (fun x => x ∈ (tr ++ new).map (·.1)) (up (tr ++ new)) r o := by
  have hrm := List.mem_of_getElem? hr
  have ne : r ≠ o := fun z => by
    subst z
    rcases hN with z | z <;> exact absurd (hE.lt _ z).1 (Nat.lt_irrefl _)
  have ho : o ∈ new.map (·.1) := by
    rw [List.map_append] at hm
    rcases List.mem_append.mp hm with z | z
    · exfalso
      have h1 := F.closed z hN.symm
      have nd := S.nd
      rw [List.map_append] at nd
      exact (List.nodup_append.mp nd).2.2 r h1 r (List.mem_map.mpr ⟨_, hrm, rfl⟩) rfl
    · exact z
  obtain ⟨⟨o', qo⟩, hom, hoe⟩ := List.mem_map.mp ho
  have hoe : o' = o := hoe
  subst hoe
  obtain ⟨k, hk, hke⟩ := List.getElem_of_mem hom
  have n1 : up (tr ++ new) r ≠ some o' := fun z => hq (one_key S.nd (List.mem_append_right _ hrm) ((up_some S.nd).mp z))
  have n2 : up (tr ++ new) o' ≠ some r := fun z => by
    have h1 := one_key S.nd (List.mem_append_right _ hom) ((up_some S.nd).mp z)
    rw [h1] at hom
    exact hp (S.kids o' r q hom hr)
  obtain ⟨L, hL, hl, hLx⟩ := S.chn i r q hr
  obtain ⟨R, hR, hr', hRx⟩ := S.chn k o' qo (by rw [List.getElem?_eq_getElem hk, hke])
  have stp : ∀ x p, (∃ q, (x, q) ∈ new) → up (tr ++ new) x = some p → (x, some p) ∈ new := fun x p ⟨q, hx⟩ hu => by
    have := one_key S.nd (List.mem_append_right _ hx) ((up_some S.nd).mp hu)
    rw [← this]
    exact hx
  refine ⟨⟨L, R, root, hL, hR, hl, hr', fun x hx => (hLx x hx).elim fun q h => ⟨S.lt x q h, List.mem_map.mpr ⟨_, List.mem_append_right _ h, rfl⟩⟩, fun x hx => (hRx x hx).elim fun q h => ⟨S.lt x q h, List.mem_map.mpr ⟨_, List.mem_append_right _ h, rfl⟩⟩, fun x p hx hu => (S.adj x p (stp x p (hLx x hx) hu)).symm, fun x p hx hu => (S.adj x p (stp x p (hRx x hx) hu)).symm⟩, ne, n1, n2, hN.symm, ?_⟩
  -- the tie lies in a ring
  have key : ∀ e, e ∈ E → (e = (r, o') ∨ e = (o', r)) → n < roots n E + E.length := fun e he hc => by
    have hD : ∀ x p, (∃ q, (x, q) ∈ new) → up (tr ++ new) x = some p → Nb (E.erase e) p x := fun x p hx hu => by
      have hN' := S.adj x p (stp x p hx hu)
      have h1 : ¬ (x = r ∧ p = o') := fun ⟨a, b⟩ => n1 (by rw [← a, ← b]; exact hu)
      have h2 : ¬ (x = o' ∧ p = r) := fun ⟨a, b⟩ => n2 (by rw [← a, ← b]; exact hu)
      have nee : (p, x) ≠ e ∧ (x, p) ≠ e := by
        rcases hc with rfl | rfl
        · exact ⟨fun z => by injection z with a b; exact h2 ⟨b, a⟩, fun z => by injection z with a b; exact h1 ⟨a, b⟩⟩
        · exact ⟨fun z => by injection z with a b; exact h1 ⟨b, a⟩, fun z => by injection z with a b; exact h2 ⟨a, b⟩⟩
      exact hN'.imp (fun z => (List.mem_erase_of_ne nee.1).mpr z) fun z => (List.mem_erase_of_ne nee.2).mpr z
    have e1 := chn_lab (D := E.erase e) hL hl fun x p hx => hD x p (hLx x hx)
    have e2 := chn_lab (D := E.erase e) hR hr' fun x p hx => hD x p (hRx x hx)
    refine roots_ring hE.bd he ?_
    rcases hc with rfl | rfl
    · exact e1.trans e2.symm
    · exact e2.trans e1.symm
  rcases hN with z | z
  · exact key _ z (.inl rfl)
  · exact key _ z (.inr rfl)
end
end Gr
set_option Elab.async false
set_option linter.all false
set_option maxRecDepth 100000
set_option maxHeartbeats 4000000
set_option autoImplicit false
/-! Z: data beside things that change; calls whose arguments are told outright. -/
namespace Z
open PySem L2
open Evl (Ex)
open Dat
/-- neither a list nor a tuple nor frozen -/
def softO : HO → Bool
  | .lst _ => false
  | .tup _ => false
  | .frz _ _ => false
  | _ => true
section
variable {K : PySem.W.Frag} {G H : Hp} {d : Addr} {o : HO}
theorem soft_ne {b : Addr} {u : HO} (hd : G d = some o) (ho : softO o = true) (h : G b = some u) (hu : softO u = false) : b ≠ d := fun z => by
  rw [z, hd] at h
  cases h
  rw [ho] at hu
  cases hu
theorem sql_cutD {a : Addr} {vs : List V} (hd : G d = some o) (ho : softO o = true) (h : SqL K G a vs) : SqL K (Z.cut G d) a vs := by
  rcases h with h | h
  · rcases h with h | ⟨z, h⟩
    · exact .inl (.inl (by rw [cut_ne (soft_ne hd ho h rfl)]; exact h))
    · exact .inl (.inr ⟨z, by rw [cut_ne (soft_ne hd ho h rfl)]; exact h⟩)
  · exact .inr h
mutual
theorem dq_cutD (hd : G d = some o) (ho : softO o = true) : ∀ (x : PyData) (v : V), Dq K G v x → Dq K (Z.cut G d) v x
  | .none, _, h => by cases h; exact .non
  | .bool b, _, h => by cases h; exact .bl b
  | .int i, _, h => by cases h; exact .int i
  | .str x, _, h => by cases h; exact .str x
  | .list ds, _, h => by
    cases h with
    | lst hs ha => exact .lst (sql_cutD hd ho hs) (dqa_cutD hd ho ds _ ha)
  | .tuple ds, _, h => by
    cases h with
    | tup hs ha => exact .tup (by rw [cut_ne (soft_ne hd ho hs rfl)]; exact hs) (dqa_cutD hd ho ds _ ha)
  | .dict _, _, h => by cases h; exact .obj _
theorem dqa_cutD (hd : G d = some o) (ho : softO o = true) : ∀ (ds : List PyData) (vs : List V), DqAll K G vs ds → DqAll K (Z.cut G d) vs ds
  | [], _, h => by cases h; exact .nil
  | x :: ds, _, h => by
    cases h with
    | cons a b => exact .cons (dq_cutD hd ho x _ a) (dqa_cutD hd ho ds _ b)
end
theorem Dq.cutD {x : PyData} {v : V} (h : Dq K G v x) (hd : G d = some o) (ho : softO o = true) : Dq K (Z.cut G d) v x := dq_cutD hd ho x v h
theorem Reps.cutD {α : Type} [Dat α] {vs : List V} {xs : List α} (h : Reps K G vs xs) (hd : G d = some o) (ho : softO o = true) : Reps K (Z.cut G d) vs xs := dqa_cutD hd ho _ _ h
theorem cut_cut {p : Addr} : Z.cut (Z.cut H d) p = Z.cut (Z.cut H p) d := by
  funext b
  by_cases h1 : b = p <;> by_cases h2 : b = d <;> simp [Z.cut, h1, h2]
theorem Own.cutD {α : Type} [Dat α] {p : Addr} {xs : List α} (h : Own K G p xs) (hd : G d = some o) (ho : softO o = true) : Own K (Z.cut G d) p xs := by
  obtain ⟨vs, h1, r1⟩ := h.ex
  have ne := soft_ne hd ho h1 rfl
  refine ⟨vs, by rw [cut_ne ne]; exact h1, ?_⟩
  rw [cut_cut]
  exact r1.cutD (by rw [cut_ne (Ne.symm ne)]; exact hd) ho
/-- a list of ints stands by itself -/
theorem own_ints {p : Addr} {xs : List Int} : Own K H p xs ↔ H p = some (.lst (xs.map V.int)) := by
  constructor
  · intro o
    obtain ⟨vs, h1, r1⟩ := o.ex
    rw [h1, r1.ints]
  · intro h
    exact ⟨_, h, reps_ints xs⟩
end
section
variable {K : PySem.W.Frag} {α β : Type} [Dat α] [Dat β] {σ : L2.St} {G H : Hp} {te ta tb tv : TE} {D : Ends} {u : TS} {i : Nat} {E : XK} {sp : Sp}
theorem ev_ixL {a : Addr} {vs : List V} {w : V} {k : Int} (ha : EV K ta σ H (.ref a)) (s : SqL K G a vs) (e : Ex G H) (hb : ER K tb σ H k) (hw : atI vs k = some w) : EV K (tOp (rIxL K) ta tb) σ H w := fun H1 e1 Q q =>
  ha H1 e1 _ fun H2 e2 => hb.evI H2 (e1.trans e2) _ fun H3 e3 => ⟨a, vs, k, w, rfl, rfl, Evl.ex_l (e.trans (e1.trans (e2.trans e3))) s, hw, q H3 (e2.trans e3)⟩
theorem ev_ixT {a : Addr} {vs : List V} {w : V} {k : Int} (ha : EV K ta σ H (.ref a)) (s : G a = some (.tup vs)) (e : Ex G H) (hb : ER K tb σ H k) (hw : atI vs k = some w) : EV K (tOp (rIxT K) ta tb) σ H w := fun H1 e1 Q q =>
  ha H1 e1 _ fun H2 e2 => hb.evI H2 (e1.trans e2) _ fun H3 e3 => ⟨a, vs, k, w, rfl, rfl, SqT.of ((e.trans (e1.trans (e2.trans e3))) _ _ s), hw, q H3 (e2.trans e3)⟩
theorem q_forE {xs : List α} {v : V} {g : TG} {tb : TS} (hv : EV K te σ H v) (r : Rep K G v xs) (e : Ex G H) (J : Nat → L2.St → Hp → Prop) (j0 : ∀ H1, Ex H H1 → J 0 σ H1)
    (js : ∀ i x w σ' H', xs[i]? = some x → Ex G H' → Rep K G w x → J i σ' H' → g w σ' H' fun σ2 H2 => tb { D with nx := fun σ3 H3 => Ex G H3 ∧ J (i + 1) σ3 H3, ct := fun σ3 H3 => Ex G H3 ∧ J (i + 1) σ3 H3, bk := u D } σ2 H2)
    (jd : ∀ σ' H', Ex G H' → J xs.length σ' H' → u D σ' H') : tSeq (tFor (iList K te) g tb) u D σ H := s_forE (D := { D with nx := u D }) hv r e J j0 js jd
theorem q_setW (h : te σ H fun v H1 => u D (σ.set i (some v)) H1) : tSeq (tAsg te (gName i)) u D σ H := h
theorem s_retV {v : V} (h : EV K te σ H v) (k : ∀ H', Ex H H' → D.rt v H') : tRet te D σ H := h H (Ex.refl H) _ k
theorem s_retW (h : te σ H D.rt) : tRet te D σ H := h
/-- what arguments come to -/
def EAs (_K : PySem.W.Frag) (t : TA) (σ : L2.St) (H : Hp) (R : List V → Hp → Prop) : Prop := ∀ H1, Ex H H1 → ∀ Q : List V → Hp → Prop, (∀ vs H2, Ex H1 H2 → R vs H2 → Q vs H2) → t σ H1 Q
theorem as_nil : EAs K tNil σ H fun vs _ => vs = [] := fun H1 e Q q => q [] H1 (Ex.refl _) rfl
theorem as_v {v : V} {t : TA} {R : List V → Hp → Prop} (h : EV K te σ H v) (hr : EAs K t σ H R) : EAs K (tCons te t) σ H fun vs H => ∃ ws, vs = v :: ws ∧ R ws H := fun H1 e Q q =>
  h H1 e _ fun H2 e2 => hr H2 (e.trans e2) _ fun vs H3 e3 r => q _ H3 (e2.trans e3) ⟨vs, rfl, r⟩
theorem as_r {x : α} {t : TA} {R : List V → Hp → Prop} (h : ER K te σ H x) (hr : EAs K t σ H R) : EAs K (tCons te t) σ H fun vs H => ∃ v ws, vs = v :: ws ∧ Rep K H v x ∧ R ws H := fun H1 e Q q =>
  h H1 e _ fun v H2 e2 rv => hr H2 (e.trans e2) _ fun vs H3 e3 r => q _ H3 (e2.trans e3) ⟨v, vs, rfl, rv.mono e3, r⟩
/-- a new list given: it stands owned, so it may be changed by none but the callee -/
theorem as_l {xs : List α} {t : TA} {R : List V → Hp → Prop} (h : EL K te σ H xs) (hr : EAs K t σ H R) : EAs K (tCons te t) σ H fun vs H' => ∃ p ws, vs = .ref p :: ws ∧ H p = none ∧ Own K H' p xs ∧ R ws H' := fun H1 e Q q =>
  h H1 e _ fun p H2 hp e2 o => hr H2 (e.trans e2) _ fun vs H3 e3 r => q _ H3 (e2.trans e3) ⟨p, vs, rfl, fresh_back e hp, o.mono e3, r⟩
theorem w_call {t : TA} {R : List V → Hp → Prop} {Q : VK} (h : EAs K t σ H R) (k : ∀ vs H', Ex H H' → R vs H' → sp (vs ++ []) H' Q E) : tCall sp [] E t σ H Q := h H (Ex.refl H) _ k
theorem w_meth {a C dx : Addr} {fs : List (Str × V)} {m : Str} {t : TA} {R : List V → Hp → Prop} {Q : VK} (ho : EV K te σ H (.ref a)) (ha : G a = some (.ins C dx fs)) (e : Ex G H) (hl : fs.lookup m = none) (h : EAs K t σ H R) (k : ∀ vs H', Ex H H' → R vs H' → sp (.ref a :: (vs ++ [])) H' Q E) : tMeth C m sp [] E te t σ H Q :=
  ho H (Ex.refl H) _ fun H1 e1 => ⟨a, dx, fs, rfl, (e.trans e1) _ _ ha, hl, h H1 e1 _ fun vs H2 e2 r => k vs H2 (e1.trans e2) r⟩
theorem w_make {C : Addr} {t : TA} {R : List V → Hp → Prop} {Q : VK} (h : EAs K t σ H R) (k : ∀ vs H', Ex H H' → R vs H' → ∀ x dx, H' x = none → H' dx = none → dx ≠ x → sp (.ref x :: (vs ++ [])) (upd (upd H' dx (.own x)) x (.ins C dx [])) (fun v H2 => v = .non ∧ Q (.ref x) H2) E) : tMake C sp [] E t σ H Q := h H (Ex.refl H) _ k
theorem w_makeS {C : Addr} {t : TA} {R : List V → Hp → Prop} {Q : VK} {Es : L2.St → XK} (h : EAs K t σ H R) (k : ∀ vs H', Ex H H' → R vs H' → ∀ x dx, H' x = none → H' dx = none → dx ≠ x → sp (.ref x :: vs) (upd (upd H' dx (.own x)) x (.ins C dx [])) (fun v H2 => v = .non ∧ Q (.ref x) H2) (Es σ)) : tMakeS C sp Es t σ H Q := h H (Ex.refl H) _ k
/-- .. handed on as data -/
theorem er_call {t : TA} {R : List V → Hp → Prop} {x : α} (h : EAs K t σ H R) (k : ∀ vs H' Q, Ex H H' → R vs H' → (∀ v H2, Ex H' H2 → Rep K H2 v x → Q v H2) → sp (vs ++ []) H' Q E) : ER K (tCall sp [] E t) σ H x := fun H1 e1 Q q => h H1 e1 _ fun vs H2 e2 r => k vs H2 Q (e1.trans e2) r fun v H3 e3 rv => q v H3 (e2.trans e3) rv
theorem er_meth {a C dx : Addr} {fs : List (Str × V)} {m : Str} {t : TA} {R : List V → Hp → Prop} {x : α} (ho : EV K te σ H (.ref a)) (ha : G a = some (.ins C dx fs)) (e : Ex G H) (hl : fs.lookup m = none) (h : EAs K t σ H R)
    (k : ∀ vs H' Q, Ex H H' → R vs H' → (∀ v H2, Ex H' H2 → Rep K H2 v x → Q v H2) → sp (.ref a :: (vs ++ [])) H' Q E) : ER K (tMeth C m sp [] E te t) σ H x := fun H1 e1 Q q =>
  ho H1 e1 _ fun H2 e2 => ⟨a, dx, fs, rfl, (e.trans (e1.trans e2)) _ _ ha, hl, h H2 (e1.trans e2) _ fun vs H3 e3 r => k vs H3 Q (e1.trans (e2.trans e3)) r fun v H4 e4 rv => q v H4 (e2.trans (e3.trans e4)) rv⟩
theorem el_meth {a C dx : Addr} {fs : List (Str × V)} {m : Str} {t : TA} {R : List V → Hp → Prop} {xs : List α} (ho : EV K te σ H (.ref a)) (ha : G a = some (.ins C dx fs)) (e : Ex G H) (hl : fs.lookup m = none) (h : EAs K t σ H R)
    (k : ∀ vs H' Q, Ex H H' → R vs H' → (∀ p H2, H' p = none → Ex H' H2 → Own K H2 p xs → Q (.ref p) H2) → sp (.ref a :: (vs ++ [])) H' Q E) : EL K (tMeth C m sp [] E te t) σ H xs := fun H1 e1 Q q =>
  ho H1 e1 _ fun H2 e2 => ⟨a, dx, fs, rfl, (e.trans (e1.trans e2)) _ _ ha, hl, h H2 (e1.trans e2) _ fun vs H3 e3 r => k vs H3 Q (e1.trans (e2.trans e3)) r fun p H4 hp e4 o => q p H4 (fresh_back (e2.trans e3) hp) (e2.trans (e3.trans e4)) o⟩
/-- i += e, ints -/
theorem s_augI {f : Int → Int → Int} {m k : Int} (h0 : σ[i]? = some (some (.int m))) (h : ER K te σ H k) (c : ∀ H', Ex H H' → D.nx (σ.set i (some (.int (f m k)))) H') : tAug i te (ipI f) D σ H :=
  ⟨_, h0, h.evI H (Ex.refl H) _ fun H1 e1 => ⟨m, k, rfl, rfl, c H1 e1⟩⟩
theorem q_augI {f : Int → Int → Int} {m k : Int} (h0 : σ[i]? = some (some (.int m))) (h : ER K te σ H k) (c : ∀ H', Ex H H' → u D (σ.set i (some (.int (f m k)))) H') : tSeq (tAug i te (ipI f)) u D σ H := s_augI (D := { D with nx := u D }) h0 h c
/-- l.append(e), e a value that leans on no list that stood before -/
theorem s_appF {l : Nat} {p : Addr} {xs : List α} {x : α} (hl : σ[l]? = some (some (.ref p))) (ho : Own K H p xs) (h : EF K te σ H x) (hz : xs.length < 100000) (k : ∀ H', (∀ G, Ex G H → G p = none → Ex G H') → (∀ b o, H b = some o → b ≠ p → H' b = some o) → Own K H' p (xs ++ [x]) → D.nx σ H') :
    tDrop (tBM K "list" rAppend (tVar l) (tCons te tNil)) D σ H := by
  obtain ⟨vs, h1, r1⟩ := ho.ex
  refine ⟨_, hl, .inl ⟨rfl, _, SqL.of h1⟩, h H (Ex.refl H) _ fun v H1 e1 r => ?_⟩
  obtain ⟨ws, h2, r2⟩ := (ho.mono e1).ex
  have ew : ws = vs := by
    have := e1 _ _ h1
    rw [this] at h2
    cases h2; rfl
  subst ew
  refine ⟨p, ws, v, rfl, rfl, h2, Evl.sz_lt (by rw [r2.len]; exact hz), k _ (fun G eG hG => ex_mut (eG.trans e1) hG) (fun b o hb ne => by rw [upd_ne ne]; exact e1 _ _ hb) ⟨_, upd_same, ?_⟩⟩
  rw [cut_upd]
  exact Reps.append r2 (Reps.cons (r p ⟨_, h1⟩) reps_nil)
theorem q_appF {l : Nat} {p : Addr} {xs : List α} {x : α} (hl : σ[l]? = some (some (.ref p))) (ho : Own K H p xs) (h : EF K te σ H x) (hz : xs.length < 100000) (k : ∀ H', (∀ G, Ex G H → G p = none → Ex G H') → (∀ b o, H b = some o → b ≠ p → H' b = some o) → Own K H' p (xs ++ [x]) → u D σ H') :
    tSeq (tDrop (tBM K "list" rAppend (tVar l) (tCons te tNil))) u D σ H := s_appF (D := { D with nx := u D }) hl ho h hz k
theorem at_ofN {γ : Type} {xs : List γ} {k : Nat} {x : γ} (h : xs[k]? = some x) : atI xs (k : Int) = some x := by
  unfold atI
  rw [ixN_nn (by omega) (by have := (List.getElem?_eq_some_iff.mp h).1; omega)]
  exact h
/-- e is None, e is not None -/
theorem er_isNV {v : V} (h : EV K te σ H v) : ER K (tOp (fun x y H Q => y = .non ∧ Q (.bl (decide (x = .non))) H) te (tC .non)) σ H (decide (v = .non)) := fun H1 e Q q => h H1 e _ fun H2 e2 => ⟨rfl, q _ H2 e2 (rep_bool _)⟩
theorem er_notNV {v : V} (h : EV K te σ H v) : ER K (tOp (fun x y H Q => y = .non ∧ Q (.bl (!decide (x = .non))) H) te (tC .non)) σ H (!decide (v = .non)) := fun H1 e Q q => h H1 e _ fun H2 e2 => ⟨rfl, q _ H2 e2 (rep_bool _)⟩
theorem at_m1 {γ : Type} {xs : List γ} {x : γ} (h : xs.getLast? = some x) : atI xs (-1) = some x := by
  have hl : 0 < xs.length := by cases xs with | nil => cases h | cons => simp
  unfold atI
  rw [ixN_m1 hl]
  show xs[xs.length - 1]? = some x
  rw [← List.getLast?_eq_getElem?, h]
theorem at_m2 {γ : Type} {xs : List γ} {x : γ} (h : xs.dropLast.getLast? = some x) : atI xs (-2) = some x := by
  have hl : 2 ≤ xs.length := by
    match xs, h with
    | [], h => cases h
    | [_], h => cases h
    | _ :: _ :: _, _ => simp
  have e : ixN xs.length (-2) = some (xs.length - 2) := by
    unfold ixN
    rw [if_neg (by omega), if_pos (by omega)]
    congr 1
    omega
  unfold atI
  rw [e]
  show xs[xs.length - 2]? = some x
  rw [List.getLast?_eq_getElem?, List.length_dropLast, List.getElem?_dropLast, if_pos (by omega)] at h
  exact h
/-- l.pop() -/
theorem q_pop {l : Nat} {p : Addr} {xs : List V} {y : V} (hl : σ[l]? = some (some (.ref p))) (hp : H p = some (.lst xs)) (hy : xs[xs.length - 1]? = some y) (k : u D σ (upd H p (.lst xs.dropLast))) : tSeq (tDrop (tBM0 K "list" rPop (tVar l))) u D σ H :=
  ⟨_, hl, .inl ⟨rfl, _, SqL.of hp⟩, p, xs, y, rfl, rfl, hp, hy, k⟩
theorem s_pop {l : Nat} {p : Addr} {xs : List V} {y : V} (hl : σ[l]? = some (some (.ref p))) (hp : H p = some (.lst xs)) (hy : xs[xs.length - 1]? = some y) (k : D.nx σ (upd H p (.lst xs.dropLast))) : tDrop (tBM0 K "list" rPop (tVar l)) D σ H :=
  ⟨_, hl, .inl ⟨rfl, _, SqL.of hp⟩, p, xs, y, rfl, rfl, hp, hy, k⟩
theorem in_rngT {tl : TE} {nn : Int} (h : ER K tl σ H nn) (h0 : -(2 ^ 62) ≤ nn) (h1 : nn < 2 ^ 62) : EInT (iRng1 (tCons tl tNil)) σ H (List.range nn.toNat) fun k v _ => v = .int (k : Nat) where
  run := fun H1 e R q => h.evI H1 e _ fun H2 e2 => ⟨nn, rfl, h0, h1, q _ H2 e2 (by
    refine ⟨fun i H' hi _ => ?_, fun H' _ => ?_, fun i x H' v H'' hx _ y => ?_⟩
    · have : i < nn.toNat := by rw [List.length_range] at hi; exact hi
      exact this
    · show nn.toNat ≤ (List.range nn.toNat).length
      rw [List.length_range]
      exact Nat.le_refl _
    · obtain ⟨rfl, rfl⟩ := y
      obtain ⟨hi, e⟩ := List.getElem?_eq_some_iff.mp hx
      rw [List.getElem_range] at e
      subst e
      exact ⟨Evl.Ex.refl _, by rw [Int.zero_add]⟩)⟩
theorem ER.v {x : α} (h : ER K te σ H x) {v : V} (hv : ∀ H w, Rep K H w x → w = v) : EV K te σ H v := fun H1 e Q q => h H1 e Q fun w H2 e2 r => by rw [hv H2 w r]; exact q H2 e2
end
end Z
set_option Elab.async false
set_option linter.all false
set_option maxRecDepth 100000
set_option maxHeartbeats 4000000
set_option autoImplicit false
/-! Z: name = {..: .. for ..} -/
namespace Z
open PySem L2 PyProof.Rows
section
variable {X : Cx}
theorem ps_setDc {i : Nat} {y : Str} {py : Pos} {kx vx tg iter : Expr} {ifs : List Expr} {scope : Scope} {own : List (Str × Nat)} {pos spos : Pos} {wi : TI} {g : TG} {tt : TT} {tk tv : TE} (hc : X.calm = true) (hN : X.N.Nodup) (hy : X.N[i]? = some y) (hyl : X.env.scope.names.lookup y = some .local)
    (hsw : swapsWith (.DictComp kx vx [⟨tg, iter, ifs, 0⟩] scope pos) (some (.Name y py)) spos.line X.env = pure true) (hi : PI X tg iter wi) (ok : BlkOk X.N X.env.scope scope own)
    (hg : ∀ (s : Shared) (H : Hp) (C : Addr) (cl : List (Str × Addr)) (fp : List Addr), PG (X.blk s H scope (compEnvC scope cl C X.env) fp) tg g) (ht : ∀ (s : Shared) (H : Hp) (C : Addr) (cl : List (Str × Addr)) (fp : List Addr), PTs (X.blk s H scope (compEnvC scope cl C X.env) fp) ifs tt)
    (hk : ∀ (s : Shared) (H : Hp) (C : Addr) (cl : List (Str × Addr)) (fp : List Addr), PE (X.blk s H scope (compEnvC scope cl C X.env) fp) kx tk)
    (he : ∀ (s : Shared) (H : Hp) (C : Addr) (cl : List (Str × Addr)) (fp : List Addr), PE (X.blk s H scope (compEnvC scope cl C X.env) fp) vx tv) (hs : ∀ x, foldedSetIterable iter X.env x = pure x := by intro _; rfl) :
    PS X (.Assign [.Name y py] (.DictComp kx vx [⟨tg, iter, ifs, 0⟩] scope pos) spos) (tAsg (tDc wi g tt tk tv (own.map (·.2))) (gName i)) := by
  refine ⟨fun pins s σ H D I h => ?_⟩
  rw [exec_Assign_Name_used _ _ _ _ hsw]
  refine wpAny_bind (wpAny_standAt (wpAny_bind ?_))
  show wpAny _ X.A (do let _ ← comprehension (.DictComp kx vx [⟨tg, iter, ifs, 0⟩] scope pos) scope X.env (firstIterPos [⟨tg, iter, ifs, 0⟩] pos) newDict false (eval iter X.env) (some (assign (.Name y py) X.env))) _ _ s
  have h : tDc wi g tt tk tv (own.map (·.2)) σ H (fun x H1 => gName i x σ H1 D.nx) := h
  refine wpAny_bind (thn (dc_core (Qf := fun _ s' => L2.SP X pins D .next s') hc hN I hi ok hg ht hk he hs h fun L C s' m H' I' q hn f => ?_) fun _ s' hq => wpAny_pure (wpAny_pure hq))
  show wpAny _ _ (assign (.Name y py) X.env (.ref L)) _ _ _
  refine wpAny_assign_Name (store_ok2 (v := V.ref L) I' hN hy (.inl hyl) rfl (fun s2 I2 ⟨a, sb, ha⟩ => ?_) (.inr hyl))
  obtain ⟨f0, f1, f2, f3, f4, f5⟩ := f
  have haC : C ≠ a := by
    rcases ha with z | z
    · rw [z]; exact f1
    · exact fun e => f4 y a z e.symm
  refine ⟨m, hn.sameBut sb haC, fun h3 sb3 => ?_⟩
  exact ⟨_, H', I2.turned (t' := s2.toks) (fun b o hb e => (sb3.2 b hb).trans e) f0 f1 f3 f4 f5, q⟩
theorem swD_true {kx vx : Expr} {gs : List Comprehension} {scope : Scope} {pos py : Pos} {y : Str} {l : Nat} {env : Env} (hk : env.scope.kind = .function) (hy : env.scope.names.lookup y = some .local) (hl : (py.line == pos.line) = true)
    (ha : (scope.names.any fun (n, k) => n == y && (k == .local || k == .cell)) = false) : swapsWith (.DictComp kx vx gs scope pos) (some (.Name y py)) l env = pure true := by
  have ky : env.kindOf y = some .local := hy
  have hb : env.blockKind = .function := by unfold Env.blockKind; rw [hk]; rfl
  unfold swapsWith
  simp only [hb, ky, ha, Expr.pos, hl]
  rfl
end
end Z
set_option Elab.async false
set_option linter.all false
set_option maxRecDepth 100000
set_option maxHeartbeats 4000000
set_option autoImplicit false
/-! Z: sorted of any data. -/
namespace Z
open PySem L2
open Evl (Ex)
open Dat
open PySem.W (EachIs AllAlike Sortable dataLe sort_maps sort_congr)
theorem each_vals : ∀ {xs : List V} {ds : List PyData} {us : List Value}, Vals xs us → xs.length = ds.length → EachIs (fun (u : Value) (b : V × PyData) => RelV b.1 u) us (xs.zip ds)
  | [], [], us, r, _ => by cases r; exact .nil
  | x :: xs, d :: ds, us, r, h => by
    cases r with
    | cons r1 r2 => exact .cons r1 (each_vals r2 (by simpa using h))
  | [], _ :: _, _, _, h => by cases h
  | _ :: _, [], _, _, h => by cases h
theorem vals_each : ∀ {bs : List (V × PyData)} {us : List Value}, EachIs (fun (u : Value) (b : V × PyData) => RelV b.1 u) us bs → Vals (bs.map (·.1)) us
  | [], us, h => by cases h; exact .nil
  | b :: bs, us, h => by
    cases h with
    | cons h1 h2 => exact .cons h1 (vals_each h2)
theorem dpall_zip {K : PySem.W.Frag} {H : Hp} : ∀ {xs : List V} {ds : List PyData}, DpAll K H xs ds → xs.length = ds.length ∧ ∀ b, b ∈ xs.zip ds → Dp K H b.1 b.2
  | [], _, h => by cases h; exact ⟨rfl, fun b hb => by cases hb⟩
  | x :: xs, ds, h => by
    cases h with
    | cons h1 h2 =>
      obtain ⟨a1, a2⟩ := dpall_zip h2
      refine ⟨by simp [a1], fun b hb => ?_⟩
      rw [List.zip_cons_cons] at hb
      rcases List.mem_cons.mp hb with rfl | hb
      · exact h1
      · exact a2 b hb
theorem each_mem2 {α β : Type} {R : α → β → Prop} {S : α → β → Prop} : ∀ {as : List α} {bs : List β}, EachIs R as bs → (∀ a b, b ∈ bs → R a b → S a b) → EachIs S as bs
  | _, _, .nil, _ => .nil
  | _, _, .cons h1 h2, k => .cons (k _ _ (List.mem_cons_self ..) h1) (each_mem2 h2 fun a b hb => k a b (List.mem_cons_of_mem _ hb))
/-- sorted(xs), xs any data that can be compared -/
def rSortedD (K : PySem.W.Frag) : List V → Hp → VK → Prop := fun vs H Q => ∃ (a : Addr) (xs : List V) (ds : List PyData), vs = [V.ref a] ∧ SqL K H a xs ∧ DpAll K H xs ds ∧ AllAlike ds ∧ Sortable ds ∧ (∀ d, d ∈ ds → d.depth ≤ 50) ∧
  ∀ p, H p = none → Q (.ref p) (upd H p (.lst (((xs.zip ds).mergeSort (dataLe false fun b : V × PyData => b.2)).map (·.1))))
theorem cr_sortedD {X : Cx} (hu : X.A.units + 64 < cLine) : CallR X (.builtin "sorted") (rSortedD X.K) := by
  intro pins s σ H vs us Q I r h
  obtain ⟨a, xs, ds, rfl, hs, hd, hal, hk, hdep, q⟩ := h
  obtain ⟨its, rv, hl, hz⟩ := I.list hs
  rw [Vals.ref1 r]
  obtain ⟨hlen, hzip⟩ := dpall_zip hd
  have hm2 : (xs.zip ds).map (fun b => b.2) = ds := by rw [← List.unzip_snd, List.unzip_zip_right]; omega
  have e := each_vals rv hlen
  refine PySem.W.sorted_data (enc := fun b : V × PyData => b.2) (bs := xs.zip ds) hl.isList e (each_mem2 e fun u b hb rb => Dp.reads I b.2 b.1 u (hzip b hb) rb) (by rw [hm2]; exact hal) (by rw [hm2]; exact hk) (by rw [List.length_zip, ← hlen, Nat.min_self]; exact hz) (fun b hb => ?_) fun out ho e2 => ?_
  · have := hdep b.2 (by rw [← hm2]; exact List.mem_map_of_mem hb)
    omega
  · obtain ⟨ep, he'⟩ := PyProof.Rows.sortedAll_at s.heap its out.toArray
    have hlen2 : (((xs.zip ds).mergeSort (dataLe false fun b : V × PyData => b.2)).map (·.1)).length ≤ sizeLine := by
      rw [List.length_map, List.length_mergeSort, List.length_zip, ← hlen, Nat.min_self]
      exact hz
    exact ⟨.ref _, upd H (s.heap.objs.size + 1) (.lst _), I.laid (t' := s.toks) (fun _ _ => PyProof.Rows.sortedAll_old) (Nat.le_succ _) ⟨hlen2, out, ep, vals_each e2, he'⟩, rfl, q _ (I.hok.fresh (Nat.le_succ _))⟩
theorem k_cr_sortedD {K : PySem.W.Frag} {X : Cx} (e : X.K = K) (hu : X.A.units + 64 < cLine) : CallR X (.builtin "sorted") (rSortedD K) := by subst e; exact cr_sortedD hu
section
variable {K : PySem.W.Frag} {α : Type} [Dat α] {σ : L2.St} {G H : Hp} {te : TE}
theorem reps_zip : ∀ {vs : List V} {xs : List α}, Reps K H vs xs → ∀ b, b ∈ vs.zip xs → Rep K H b.1 b.2
  | [], xs, h, b, hb => by simp at hb
  | v :: vs, [], h, b, hb => by simp at hb
  | v :: vs, x :: xs, h, b, hb => by
    obtain ⟨w, ws, e, h1, h2⟩ := Reps.inv h
    cases e
    rw [List.zip_cons_cons] at hb
    rcases List.mem_cons.mp hb with rfl | hb
    · exact h1
    · exact reps_zip h2 b hb
theorem zip_reps : ∀ {bs : List (V × α)}, (∀ b, b ∈ bs → Rep K H b.1 b.2) → Reps K H (bs.map (·.1)) (bs.map (·.2))
  | [], _ => reps_nil
  | b :: bs, h => Reps.cons (h b (List.mem_cons_self ..)) (zip_reps fun c hc => h c (List.mem_cons_of_mem _ hc))
/-- sorted(xs), in the order le of the data -/
theorem el_sortD {xs : List α} {le : α → α → Bool} [Flat α] (h : ER K te σ H xs) (hlay : ∀ x : α, x ∈ xs → (enc x).canLay0 = true) (hal : AllAlike (xs.map enc)) (hk : Sortable (xs.map enc)) (hd : ∀ x : α, x ∈ xs → (enc x).depth ≤ 50)
    (hle : ∀ x y : α, x ∈ xs → y ∈ xs → dataLe false enc x y = le x y) : EL K (tCB (rSortedD K) (tCons te tNil)) σ H (xs.mergeSort le) := fun H1 e1 Q q =>
  h H1 e1 _ fun v H2 e2 r => by
    obtain ⟨a, vs, rfl, s, rr⟩ := Rep.list r
    have hz := reps_zip rr
    have hl := rr.len
    have lay : ∀ {xs : List α}, (∀ x : α, x ∈ xs → (enc x).canLay0 = true) → PyData.canLayAll0 (xs.map enc) = true := fun {xs} => by
      induction xs with
      | nil => intro _; rfl
      | cons x xs ih =>
        intro h
        show ((enc x).canLay0 && PyData.canLayAll0 (xs.map enc)) = true
        rw [h x (List.mem_cons_self ..), ih fun y hy => h y (List.mem_cons_of_mem _ hy)]
        rfl
    refine ⟨a, vs, xs.map enc, rfl, s, dqa_dp _ _ (lay hlay) rr, hal, hk, fun d hd' => ?_, fun p hp => ?_⟩
    · obtain ⟨x, hx, rfl⟩ := List.mem_map.mp hd'
      exact hd x hx
    · refine q p _ (fresh_back e2 hp) (e2.trans (Evl.Ex.new hp)) ?_
      -- the sorted values stand for the sorted data
      have e3 : (vs.zip (xs.map enc)).mergeSort (dataLe false fun b : V × PyData => b.2) = ((vs.zip xs).mergeSort fun b c => dataLe false enc b.2 c.2).map fun b => (b.1, enc b.2) := by
        have : vs.zip (xs.map enc) = (vs.zip xs).map fun b => (b.1, enc b.2) := by
          rw [List.zip_map_right]
          rfl
        rw [this]
        exact (sort_maps (r := fun b c : V × α => dataLe false enc b.2 c.2) (fun b : V × α => (b.1, enc b.2)) fun b _ c _ => rfl).symm
      have e4 : ((vs.zip xs).mergeSort fun b c => dataLe false enc b.2 c.2).map (·.2) = xs.mergeSort le := by
        rw [sort_maps (s := fun x y => dataLe false enc x y) (fun b : V × α => b.2) fun b _ c _ => rfl]
        have : (vs.zip xs).map (fun b => b.2) = xs := by rw [← List.unzip_snd, List.unzip_zip_right]; omega
        rw [this]
        exact sort_congr fun x hx y hy => hle x y hx hy
      refine ⟨_, upd_same, ?_⟩
      rw [cut_updn hp, e3, List.map_map, ← e4]
      exact zip_reps fun b hb => hz b (List.mem_mergeSort.mp hb)
end
/-! rows of ints by their code -/
theorem code_le {B : Int} : ∀ {xs ys : List Int}, xs.length = ys.length → TS.Bd B xs → TS.Bd B ys → (TS.code B xs < TS.code B ys ↔ xs < ys)
  | [], [], _, _, _ => by simp [TS.code]
  | x :: xs, y :: ys, hl, hx, hy => by
    have hl' : xs.length = ys.length := by simpa using hl
    have ih := code_le hl' (fun m hm => hx m (List.mem_cons_of_mem _ hm)) (fun m hm => hy m (List.mem_cons_of_mem _ hm))
    have lt : ∀ {zs : List Int}, TS.Bd B zs → 0 ≤ TS.code B zs ∧ TS.code B zs < B ^ zs.length := fun {zs} => by
      induction zs with
      | nil => intro _; simp [TS.code]
      | cons z zs ih =>
        intro h
        obtain ⟨i1, i2⟩ := ih fun m hm => h m (List.mem_cons_of_mem _ hm)
        have hz := h z (List.mem_cons_self ..)
        show 0 ≤ z * B ^ zs.length + TS.code B zs ∧ z * B ^ zs.length + TS.code B zs < B ^ (zs.length + 1)
        have hp : 0 ≤ B ^ zs.length := by omega
        constructor
        · have := Int.mul_nonneg hz.1 hp
          omega
        · have h1 : (z + 1) * B ^ zs.length ≤ B * B ^ zs.length := Int.mul_le_mul_of_nonneg_right (by omega) hp
          rw [Int.add_mul, Int.one_mul] at h1
          rw [Int.pow_succ, Int.mul_comm (B ^ zs.length) B]
          omega
    obtain ⟨a1, a2⟩ := lt (zs := xs) fun m hm => hx m (List.mem_cons_of_mem _ hm)
    obtain ⟨b1, b2⟩ := lt (zs := ys) fun m hm => hy m (List.mem_cons_of_mem _ hm)
    show x * B ^ xs.length + TS.code B xs < y * B ^ ys.length + TS.code B ys ↔ _
    rw [← hl'] at b2 ⊢
    rw [List.cons_lt_cons_iff, ← ih]
    generalize B ^ xs.length = M at *
    have hM : 0 < M := by omega
    by_cases h1 : x < y
    · have : (x + 1) * M ≤ y * M := Int.mul_le_mul_of_nonneg_right (by omega) (by omega)
      rw [Int.add_mul, Int.one_mul] at this
      constructor
      · exact fun _ => .inl h1
      · intro _; omega
    · by_cases h2 : x = y
      · subst h2
        constructor
        · intro h; exact .inr ⟨rfl, by omega⟩
        · rintro (h | ⟨_, h⟩)
          · exact absurd h h1
          · omega
      · have : (y + 1) * M ≤ x * M := Int.mul_le_mul_of_nonneg_right (by omega) (by omega)
        rw [Int.add_mul, Int.one_mul] at this
        constructor
        · intro h; omega
        · rintro (h | ⟨h, _⟩)
          · exact absurd h h1
          · exact absurd h h2
section
variable {K : PySem.W.Frag} {σ : L2.St} {G H : Hp} {te : TE}
/-- sorted(rows), lists of d ints in [0, B) -/
theorem el_sortLL {d : Nat} {B : Int} {xs : List (List Int)} (h : EL K te σ H xs ∨ ER K te σ H xs) (hr : ∀ t, t ∈ xs → t.length = d ∧ TS.Bd B t) : ∀ H1, Ex H H1 → ∀ Q : VK, (∀ v H2, Ex H1 H2 → Rep K H2 v (srtK (TS.code B) xs) → Q v H2) → tCB (rSortedD K) (tCons te tNil) σ H1 Q := fun H1 e1 Q q => by
  have h : ER K te σ H xs := h.elim EL.er id
  refine h H1 e1 _ fun v H2 e2 r => ?_
  obtain ⟨a, vs, rfl, s, rr⟩ := Rep.list r
  have hz := reps_zip rr
  have hl := rr.len
  have lay : ∀ xs : List (List Int), PyData.canLayAll0 (xs.map enc) = true := fun xs => lay_map xs
  refine ⟨a, vs, xs.map enc, rfl, s, dqa_dp _ _ (lay xs) rr, AllAlike.of fun b b' => PySem.W.alike_ints b b', Sortable.others fun b => ⟨fun z => (by cases z), fun _ z => (by cases z)⟩, fun d hd' => ?_, fun p hp => ?_⟩
  · obtain ⟨x, hx, rfl⟩ := List.mem_map.mp hd'
    have := Deep.dep (α := List Int) x
    omega
  · refine q _ _ (e2.trans (Evl.Ex.new hp)) ?_
    have e3 : (vs.zip (xs.map enc)).mergeSort (dataLe false fun b : V × PyData => b.2) = ((vs.zip xs).mergeSort fun b c => dataLe false enc b.2 c.2).map fun b => (b.1, enc b.2) := by
      have : vs.zip (xs.map enc) = (vs.zip xs).map fun b => (b.1, enc b.2) := by
        rw [List.zip_map_right]
        rfl
      rw [this]
      exact (sort_maps (r := fun b c : V × List Int => dataLe false enc b.2 c.2) (fun b : V × List Int => (b.1, enc b.2)) fun b _ c _ => rfl).symm
    have e4 : ((vs.zip xs).mergeSort fun b c => dataLe false enc b.2 c.2).map (·.2) = srtK (TS.code B) xs := by
      rw [sort_maps (s := fun x y => dataLe false enc x y) (fun b : V × List Int => b.2) fun b _ c _ => rfl]
      have : (vs.zip xs).map (fun b => b.2) = xs := by rw [← List.unzip_snd, List.unzip_zip_right]; omega
      rw [this]
      refine sort_congr fun x hx y hy => ?_
      have := congrFun (congrFun (PySem.W.dataLe_rows (β := List Int) fun b => b) x) y
      refine this.trans ?_
      refine decide_eq_decide.mpr ?_
      have c := code_le (B := B) (xs := y) (ys := x) (by rw [(hr y hy).1, (hr x hx).1]) (hr y hy).2 (hr x hx).2
      rw [← List.not_lt, ← c]
      omega
    refine rep_list (SqL.of upd_same) (Reps.mono (Evl.Ex.new hp) ?_)
    rw [e3, List.map_map, ← e4]
    exact zip_reps fun b hb => hz b (List.mem_mergeSort.mp hb)
end
end Z
set_option Elab.async false
set_option linter.all false
set_option maxRecDepth 100000
set_option maxHeartbeats 4000000
set_option autoImplicit false
/-! Z: min, max of a tuple, of a list of ints. -/
namespace Z
open PySem L2 PyProof.Rows
open Evl (Ex)
section
variable {prog : Program} {w : World} {A : Around} {E : Value → Shared → Prop} {s : Shared} {l : Addr} {xs : Array (Int × Tok)}
theorem iter_tup {Q : Value → Shared → Prop} (hl : s.heap.IsTuple l (intItems xs))
    (h : ∀ s₂ : Shared, s₂ = { s with heap := s.heap.push { cls := .type "tuple_iterator", data := .fields #[.ref l, .int 0 0] } } →
      (s₂.heap.IsTupleIter s.heap.objs.size l 0 ∧ s₂.heap.IsTuple l (intItems xs)) → (∀ b ∈ [s.heap.objs.size, l], b < s₂.heap.objs.size) → l ≠ s.heap.objs.size → Q (.ref s.heap.objs.size) s₂) :
    wpAny (model prog w) A (pyIter (.ref l)) Q E s := by
  have hlt : l < s.heap.objs.size := by obtain ⟨o, ho, _⟩ := hl; exact Heap.lt_size ho
  refine wpAny_pyIter_tuple hl (h _ rfl ⟨⟨_, Heap.get?_push_size _ rfl, rfl, rfl⟩, ?_⟩ (fun b hb => ?_) (Nat.ne_of_lt hlt))
  · obtain ⟨o, ho, r⟩ := hl
    exact ⟨o, Heap.get?_push_of_some _ ho, r⟩
  · show b < (s.heap.push _).objs.size
    rw [Heap.size_push]
    rcases List.mem_cons.mp hb with rfl | hb
    · exact Nat.lt_succ_self _
    · rcases List.mem_cons.mp hb with rfl | hb
      · exact Nat.lt_succ_of_lt hlt
      · cases hb
theorem old_keptT {h' : Heap} {ob : Obj} (hk : ∀ b o, b ∉ [s.heap.objs.size] → (s.heap.push ob).get? b = some o → h'.get? b = some o) :
    ∀ b o, s.heap.get? b = some o → h'.get? b = some o := fun b o e => by
  refine hk b o (fun hm => ?_) (Heap.get?_push_of_some _ e)
  rcases List.mem_cons.mp hm with e1 | hm
  · exact absurd (e1 ▸ Heap.lt_size e) (Nat.lt_irrefl _)
  · cases hm
theorem max_tup {Q : Value → Shared → Prop} (hh : A.handled = none) (hl : s.heap.IsTuple l (intItems xs)) (hne : 0 < xs.size)
    (h : ∀ v h' tk, (intItems xs)[argBest (fun i j => decide (numAt xs i > numAt xs j)) (xs.size - 1)]? = some v → (∀ b o, s.heap.get? b = some o → h'.get? b = some o) → Q v { s with heap := h', toks := tk }) :
    wpAny (model prog w) A (call (.builtin "max") [.ref l]) Q E s := by
  refine call_max_walk (iter_tup hl fun s₂ e st hfp hlI => ?_)
  subst e
  refine ⟨_, _, _, _, _, _, _, rfl, Walks.tuple (A := A.in1) hh _ l hlI (intItems xs), st, hfp, by simpa [intItems] using hne, CmpOf.ints_gt (numAt xs) (fun _ _ => intItems_at), fun v h' tk hP hk => ?_⟩
  exact h v h' tk (by simpa [intItems] using hP) (old_keptT hk)
theorem min_tup {Q : Value → Shared → Prop} (hh : A.handled = none) (hl : s.heap.IsTuple l (intItems xs)) (hne : 0 < xs.size)
    (h : ∀ v h' tk, (intItems xs)[argBest (fun i j => decide (numAt xs i < numAt xs j)) (xs.size - 1)]? = some v → (∀ b o, s.heap.get? b = some o → h'.get? b = some o) → Q v { s with heap := h', toks := tk }) :
    wpAny (model prog w) A (call (.builtin "min") [.ref l]) Q E s := by
  refine call_min_walk (iter_tup hl fun s₂ e st hfp hlI => ?_)
  subst e
  refine ⟨_, _, _, _, _, _, _, rfl, Walks.tuple (A := A.in1) hh _ l hlI (intItems xs), st, hfp, by simpa [intItems] using hne, CmpOf.ints_lt (numAt xs) (fun _ _ => intItems_at), fun v h' tk hP hk => ?_⟩
  exact h v h' tk (by simpa [intItems] using hP) (old_keptT hk)
end
def rMinT (K : PySem.W.Frag) : List V → Hp → VK → Prop := fun vs H Q => ∃ (a : Addr) (ns : List Int), vs = [V.ref a] ∧ SqT K H a (ns.map V.int) ∧ 0 < ns.length ∧ ∀ m, m ∈ ns → (∀ y, y ∈ ns → m ≤ y) → Q (.int m) H
def rMaxT (K : PySem.W.Frag) : List V → Hp → VK → Prop := fun vs H Q => ∃ (a : Addr) (ns : List Int), vs = [V.ref a] ∧ SqT K H a (ns.map V.int) ∧ 0 < ns.length ∧ ∀ m, m ∈ ns → (∀ y, y ∈ ns → y ≤ m) → Q (.int m) H
theorem getD_memI {xs : List Int} {i : Nat} (h : i < xs.length) : xs.getD i 0 ∈ xs := by
  rw [List.getD_eq_getElem?_getD, List.getElem?_eq_getElem h]
  exact List.getElem_mem h
theorem cr_minT {X : Cx} (hc : X.calm = true) : CallR X (.builtin "min") (rMinT X.K) := by
  intro pins s σ H vs us Q I r h
  obtain ⟨a, ns, rfl, hs, hne, q⟩ := h
  obtain ⟨its, rv, hl, _⟩ := I.tuple hs
  rw [Vals.ref1 r]
  have hi := rv.ints
  obtain ⟨xs, e⟩ := hi.allInts.items
  have hn : numsOf (intItems xs).toList = ns := by rw [← e]; exact hi.numsOf
  rw [nums_intItems] at hn
  obtain ⟨o, ho, hcl, n, hd⟩ := hl
  rw [e] at hd
  have hlen : xs.size = ns.length := by rw [← hn, List.length_map, Array.length_toList]
  refine min_tup (I.ok.hd hc) (xs := xs) ⟨o, ho, hcl, n, hd⟩ (by omega) fun v h' tk hv hk => ?_
  obtain ⟨t, rfl⟩ := intItems_at hv
  obtain ⟨h1, h2⟩ := argBest_lt (numAt xs) (xs.size - 1)
  refine ⟨.int _, H, I.kept hk, ⟨_, rfl⟩, q _ ?_ fun y hy => ?_⟩
  · rw [numAt_eq, hn]
    exact getD_memI (by omega)
  · obtain ⟨j, hj, rfl⟩ := List.getElem_of_mem hy
    have := h2 j (by omega)
    rw [numAt_eq xs j, hn, List.getD_eq_getElem?_getD, List.getElem?_eq_getElem hj] at this
    exact this
theorem cr_maxT {X : Cx} (hc : X.calm = true) : CallR X (.builtin "max") (rMaxT X.K) := by
  intro pins s σ H vs us Q I r h
  obtain ⟨a, ns, rfl, hs, hne, q⟩ := h
  obtain ⟨its, rv, hl, _⟩ := I.tuple hs
  rw [Vals.ref1 r]
  have hi := rv.ints
  obtain ⟨xs, e⟩ := hi.allInts.items
  have hn : numsOf (intItems xs).toList = ns := by rw [← e]; exact hi.numsOf
  rw [nums_intItems] at hn
  obtain ⟨o, ho, hcl, n, hd⟩ := hl
  rw [e] at hd
  have hlen : xs.size = ns.length := by rw [← hn, List.length_map, Array.length_toList]
  refine max_tup (I.ok.hd hc) (xs := xs) ⟨o, ho, hcl, n, hd⟩ (by omega) fun v h' tk hv hk => ?_
  obtain ⟨t, rfl⟩ := intItems_at hv
  obtain ⟨h1, h2⟩ := argBest_gt (numAt xs) (xs.size - 1)
  refine ⟨.int _, H, I.kept hk, ⟨_, rfl⟩, q _ ?_ fun y hy => ?_⟩
  · rw [numAt_eq, hn]
    exact getD_memI (by omega)
  · obtain ⟨j, hj, rfl⟩ := List.getElem_of_mem hy
    have := h2 j (by omega)
    rw [numAt_eq xs j, hn, List.getD_eq_getElem?_getD, List.getElem?_eq_getElem hj] at this
    exact this
theorem k_cr_minT {K : PySem.W.Frag} {X : Cx} (e : X.K = K) (hc : X.calm = true) : CallR X (.builtin "min") (rMinT K) := e ▸ cr_minT hc
theorem k_cr_maxT {K : PySem.W.Frag} {X : Cx} (e : X.K = K) (hc : X.calm = true) : CallR X (.builtin "max") (rMaxT K) := e ▸ cr_maxT hc
theorem k_cr_min {K : PySem.W.Frag} {X : Cx} (e : X.K = K) (hc : X.calm = true) : CallR X (.builtin "min") (rMin K) := e ▸ cr_min hc
theorem k_cr_max {K : PySem.W.Frag} {X : Cx} (e : X.K = K) (hc : X.calm = true) : CallR X (.builtin "max") (rMax K) := e ▸ cr_max hc
section
variable {K : PySem.W.Frag} {σ : L2.St} {G H : Hp} {te : TE}
theorem er_minT2 {t : Tp Int} {x y : Int} (h : ER K te σ H t) (ht : (show List Int from t) = [x, y]) : ER K (tCB (rMinT K) (tCons te tNil)) σ H (min x y) := fun H1 e1 Q q => h H1 e1 _ fun v H2 e2 r => by
  obtain ⟨a, vs, rfl, s, rr⟩ := Rep.tup r
  have hv := Reps.ints (xs := (show List Int from t)) rr
  rw [ht] at hv
  refine ⟨a, [x, y], rfl, by rw [← hv]; exact s, by simp, fun m hm hle => ?_⟩
  have : m = min x y := by
    have h1 := hle x (by simp)
    have h2 := hle y (by simp)
    have : m = x ∨ m = y := by simpa using hm
    omega
  rw [this]
  exact q _ H2 e2 (rep_int _)
theorem er_maxT2 {t : Tp Int} {x y : Int} (h : ER K te σ H t) (ht : (show List Int from t) = [x, y]) : ER K (tCB (rMaxT K) (tCons te tNil)) σ H (max x y) := fun H1 e1 Q q => h H1 e1 _ fun v H2 e2 r => by
  obtain ⟨a, vs, rfl, s, rr⟩ := Rep.tup r
  have hv := Reps.ints (xs := (show List Int from t)) rr
  rw [ht] at hv
  refine ⟨a, [x, y], rfl, by rw [← hv]; exact s, by simp, fun m hm hle => ?_⟩
  have : m = max x y := by
    have h1 := hle x (by simp)
    have h2 := hle y (by simp)
    have : m = x ∨ m = y := by simpa using hm
    omega
  rw [this]
  exact q _ H2 e2 (rep_int _)
end
end Z
set_option Elab.async false
set_option linter.all false
set_option maxRecDepth 100000
set_option maxHeartbeats 4000000
set_option autoImplicit false
/-! Z: max(xs, default=k). -/
namespace Z
open PySem L2 PyProof.Rows
open Evl (Ex)
section
variable {prog : Program} {w : World} {A : Around} {E : Value → Shared → Prop} {R : Result → Shared → Prop} {I : Addr} {fp wr : List Addr} {n : Nat} {P : Nat → Value → Prop} {St : Nat → Heap → Prop} {kw : List (Str × Value)}
theorem nm_max : (toString "max" ++ toString ".loop" : String) = "max.loop" := by decide
theorem mxl_turn (W : PySem.Walks prog w A.in1 I fp wr n P St) (bt : Nat → Nat → Bool) (hcmp : CmpOf prog w A.in1 .Gt P bt) (S : Addr) (nf : S ∉ fp) :
    ∀ (k j : Nat) (s : Shared) (vb : Value) (c : Nat), n - (j + 1) = k → j + 1 ≤ n → St (j + 1) s.heap → P (argBest bt j) vb → s.heap.get? S = some { cls := .type "list", dict := none, data := .seq #[vb, vb] c, slots := #[] } →
    (∀ v h' tk, P (argBest bt (n - 1)) v → (∀ b o, b ∉ wr → b ≠ S → s.heap.get? b = some o → h'.get? b = some o) → R (.ok (.ret v)) { s with heap := h', toks := tk }) →
    codeAny (model prog w) A (.builtin "max.loop" ⟨[.ref I, .none, .ref S], kw⟩) R s := by
  have nw : S ∉ wr := fun h => nf (W.sub _ h)
  intro k
  induction k with
  | zero =>
    intro j s vb c e0 hj st pb gS fin
    have en : j + 1 = n := by omega
    refine codeAny_builtin F.entry_max_loop (by
      rw [Around.under_plainId F.plain_max_loop _]
      show wpAny _ A.in1 (seqItems? (.ref S) >>= _) _ _ s
      exact wpAny_bind (wpAny_seqItems gS rfl (by
        show wpAny _ A.in1 (tryCatch (pyNext (.ref I)) _ >>= _) _ _ s
        exact wpAny_bind (wpAny_tryCatch (W.done s _ _ (en ▸ st) fun h' tk kp => (by
          show wpAny _ A.in1 (updateSeq S (fun _ => #[]) >>= _) _ _ _
          exact wpAny_bind (wpAny_updateSeq (kp S _ nw gS) rfl (wpAny_bind (wpAny_letGo (wpAny_pure (fin vb _ tk (by rw [← en]; exact pb) fun b o h1 h2 g => (Heap.get?_update_other _ _ (Ne.symm h2)).trans (kp b o h1 g)))))))))))) 
  | succ k ih =>
    intro j s vb c e0 hj st pb gS fin
    have lt : j + 1 < n := by omega
    refine codeAny_builtin F.entry_max_loop ?_
    rw [Around.under_plainId F.plain_max_loop _]
    show wpAny _ A.in1 (seqItems? (.ref S) >>= _) _ _ s
    refine wpAny_bind (wpAny_seqItems gS rfl (show wpAny _ A.in1 (tryCatch (pyNext (.ref I)) _ >>= _) _ _ s from wpAny_bind (wpAny_tryCatch (W.item (j + 1) s _ _ lt st fun v h' tk pv st' kp => ?_))))
    have gS' := kp S _ nw gS
    show wpAny _ A.in1 (tryCatch (holding [v, v] (richCompare .Gt v vb >>= _)) _ >>= _) _ _ _
    refine wpAny_bind (wpAny_tryCatch (wpAny_holding (wpAny_bind (hcmp (j + 1) (argBest bt j) v vb _ _ _ pv pb (wpAny_bind (wpAny_holding (wpAny_truthy_bool (wpAny_bind (wpAny_letGo (wpAny_pure ?_))))))))))
    cases hb : bt (j + 1) (argBest bt j) with
    | true =>
      rw [if_pos rfl, nm_max]
      refine wpAny_bind (wpAny_updateSeq gS' rfl (wpAny_bind (wpAny_letGo (wpAny_pure ⟨plainId_quiet F.plain_max_loop _, ih (j + 1) _ v _ (by omega) lt (W.frame _ _ _ st' fun b hbf o g => ?_) (by simp only [argBest, hb, if_true]; exact pv) (Heap.get?_update_self _ gS' rfl) fun v' h2 tk2 pv' kp2 => ?_⟩))))
      · exact (Heap.get?_update_other _ _ (fun h : S = b => nf (by rw [h]; exact hbf))).trans g
      · exact fin v' h2 tk2 pv' fun b o h1 h3 g => kp2 b o h1 h3 ((Heap.get?_update_other _ _ (Ne.symm h3)).trans (kp b o h1 g))
    | false =>
      rw [if_neg Bool.false_ne_true, nm_max]
      exact wpAny_bind (wpAny_letGo (wpAny_pure ⟨plainId_quiet F.plain_max_loop _, ih (j + 1) _ vb c (by omega) lt st' (by simp only [argBest, hb, Bool.false_eq_true, if_false]; exact pb) gS' fun v' h2 tk2 pv' kp2 => fin v' h2 tk2 pv' fun b o h1 h3 g => kp2 b o h1 h3 (kp b o h1 g)⟩))
theorem mxl_first (W : PySem.Walks prog w A.in1 I fp wr n P St) (bt : Nat → Nat → Bool) (hcmp : CmpOf prog w A.in1 .Gt P bt) (S : Addr) (nf : S ∉ fp) {d : Value} {s : Shared} {c : Nat} {x : Str} (st : St 0 s.heap)
    (gS : s.heap.get? S = some { cls := .type "list", dict := none, data := .seq #[] c, slots := #[] })
    (fin : 0 < n → ∀ v h' tk, P (argBest bt (n - 1)) v → (∀ b o, b ∉ wr → b ≠ S → s.heap.get? b = some o → h'.get? b = some o) → R (.ok (.ret v)) { s with heap := h', toks := tk })
    (fin0 : n = 0 → ∀ h' tk, (∀ b o, b ∉ wr → b ≠ S → s.heap.get? b = some o → h'.get? b = some o) → R (.ok (.ret d)) { s with heap := h', toks := tk }) :
    codeAny (model prog w) A (.builtin "max.loop" ⟨[.ref I, .none, .ref S], [(x, d)]⟩) R s := by
  have nw : S ∉ wr := fun h => nf (W.sub _ h)
  refine codeAny_builtin F.entry_max_loop ?_
  rw [Around.under_plainId F.plain_max_loop _]
  show wpAny _ A.in1 (seqItems? (.ref S) >>= _) _ _ s
  refine wpAny_bind (wpAny_seqItems gS rfl ?_)
  show wpAny _ A.in1 (tryCatch (pyNext (.ref I)) _ >>= _) _ _ s
  rcases Nat.eq_zero_or_pos n with hz | hn
  · refine wpAny_bind (wpAny_tryCatch (W.done s _ _ (by rw [hz]; exact st) fun h' tk kp => ?_))
    exact wpAny_bind (wpAny_rule (wpAny_pure (fin0 hz h' tk fun b o h1 h2 g => kp b o h1 g)))
  · refine wpAny_bind (wpAny_tryCatch (W.item 0 s _ _ hn st fun v h' tk pv st' kp => ?_))
    have gS' := kp S _ nw gS
    show wpAny _ A.in1 (updateSeq S (fun _ => #[v, v]) >>= _) _ _ _
    rw [nm_max]
    refine wpAny_bind (wpAny_updateSeq gS' rfl (wpAny_pure ⟨plainId_quiet F.plain_max_loop _, mxl_turn W bt hcmp S nf _ 0 _ v _ rfl hn (W.frame _ _ _ st' fun b hbf o g => ?_) pv (Heap.get?_update_self _ gS' rfl) fun v' h2 tk2 pv' kp2 => ?_⟩))
    · exact (Heap.get?_update_other _ _ (fun h : S = b => nf (by rw [h]; exact hbf))).trans g
    · exact fin hn v' h2 tk2 pv' fun b o h1 h3 g => kp2 b o h1 h3 ((Heap.get?_update_other _ _ (Ne.symm h3)).trans (kp b o h1 g))
theorem ok_maxd (a v : Value) : argsOk "max" ⟨[a], [(Str.ofString "default", v)]⟩ := by unfold argsOk; kernel_rfl
variable {s : Shared} {l : Addr} {xs : Array (Int × Tok)}
theorem max_dflt {d : Value} {Q : Value → Shared → Prop} (hh : A.handled = none) (hl : s.heap.IsList l (intItems xs))
    (h : 0 < xs.size → ∀ v h' tk, (intItems xs)[argBest (fun i j => decide (numAt xs i > numAt xs j)) (xs.size - 1)]? = some v → (∀ b o, s.heap.get? b = some o → h'.get? b = some o) → Q v { s with heap := h', toks := tk })
    (h0 : xs.size = 0 → ∀ h' tk, (∀ b o, s.heap.get? b = some o → h'.get? b = some o) → Q d { s with heap := h', toks := tk }) :
    wpAny (model prog w) A (call (.builtin "max") [.ref l] [(Str.ofString "default", d)]) Q E s := by
  refine kmk_tree F.kind_max F.plain_max F.entry_max (ok_maxd _ _) ?_
  show wpAny _ A.in1 (Builtin.Builtins.bindParams "max" ["key", "default"] 0 ⟨[], [(Str.ofString "default", d)]⟩ >>= _) _ _ s
  refine wpAny_bind (wpAny_of_eq (show Builtin.Builtins.bindParams "max" ["key", "default"] 0 ⟨[], [(Str.ofString "default", d)]⟩ = pure [none, some d] from rfl) (wpAny_bind (wpAny_pure (wpAny_bind (iter_intList hl fun s₂ e st hfp hlI => ?_)))))
  have W := PySem.Walks.list (prog := prog) (w := w) (A := A.in1) hh s.heap.objs.size l hlI (intItems xs)
  have hsz : (intItems xs).size = xs.size := by simp [intItems]
  have nf : s₂.heap.objs.size ∉ [s.heap.objs.size, l] := fun hm => Nat.lt_irrefl _ (hfp _ hm)
  refine wpAny_bind (wpAny_newObj_type ?_)
  rw [nm_max]
  refine wpAny_pure ⟨plainId_quiet F.plain_max_loop _, mxl_first W _ (CmpOf.ints_gt (numAt xs) (fun _ _ => intItems_at)) s₂.heap.objs.size nf (W.frame _ _ _ st fun b _ o e => Heap.get?_push_of_some _ e) (Heap.get?_push_size _ rfl) (fun hn v h' tk hP hk => ?_) fun hz h' tk hk => ?_⟩
  · rw [hsz] at hn hP
    subst e
    exact h hn v h' tk hP (old_kept fun b o hb g => hk b o hb (Nat.ne_of_lt (Heap.lt_size g)) (Heap.get?_push_of_some _ g))
  · rw [hsz] at hz
    subst e
    exact h0 hz h' tk (old_kept fun b o hb g => hk b o hb (Nat.ne_of_lt (Heap.lt_size g)) (Heap.get?_push_of_some _ g))
end
/-- the greatest of xs, k where there is none -/
def mxd (k : Int) : List Int → Int
  | [] => k
  | x :: xs => xs.foldl max x
def rMaxD (K : PySem.W.Frag) : List V → List V → Hp → VK → Prop := fun vs zs H Q => ∃ (a : Addr) (ns : List Int) (k : Int), vs = [V.ref a] ∧ zs = [.int k] ∧ SqL K H a (ns.map V.int) ∧ (∀ m, m ∈ ns → (∀ y, y ∈ ns → y ≤ m) → Q (.int m) H) ∧ (ns = [] → Q (.int k) H)
theorem cr_maxD {X : Cx} (hc : X.calm = true) : CallRK X (.builtin "max") [Str.ofString "default"] (rMaxD X.K) := by
  intro pins s σ H vs zs us ws Q I r rz h
  obtain ⟨a, ns, k, rfl, rfl, hs, q, q0⟩ := h
  obtain ⟨its, rv, hl, _⟩ := I.list hs
  rw [Vals.ref1 r]
  obtain ⟨w1, rfl, tk1, rfl⟩ := vals1 rz
  have hi := rv.ints
  obtain ⟨xs, e⟩ := hi.allInts.items
  have hn : numsOf (intItems xs).toList = ns := by rw [← e]; exact hi.numsOf
  rw [nums_intItems] at hn
  have hl' := hl.isList
  rw [e] at hl'
  have hlen : xs.size = ns.length := by rw [← hn, List.length_map, Array.length_toList]
  refine max_dflt (I.ok.hd hc) (xs := xs) hl' (fun hp v h' tk hv hk => ?_) fun hz h' tk hk => ?_
  · obtain ⟨t, rfl⟩ := intItems_at hv
    obtain ⟨h1, h2⟩ := argBest_gt (numAt xs) (xs.size - 1)
    refine ⟨.int _, H, I.kept hk, ⟨_, rfl⟩, q _ ?_ fun y hy => ?_⟩
    · rw [numAt_eq, hn]
      exact getD_memI (by omega)
    · obtain ⟨j, hj, rfl⟩ := List.getElem_of_mem hy
      have := h2 j (by omega)
      rw [numAt_eq xs j, hn, List.getD_eq_getElem?_getD, List.getElem?_eq_getElem hj] at this
      exact this
  · exact ⟨.int k, H, I.kept hk, ⟨_, rfl⟩, q0 (List.length_eq_zero_iff.mp (by omega))⟩
theorem k_cr_maxD {K : PySem.W.Frag} {X : Cx} (e : X.K = K) (hc : X.calm = true) : CallRK X (.builtin "max") [Str.ofString "default"] (rMaxD K) := e ▸ cr_maxD hc
section
variable {K : PySem.W.Frag} {σ : L2.St} {G H : Hp} {te tk : TE}
/-- the greatest number: told by a property -/
theorem er_maxD {xs : List Int} {k m : Int} (h : ER K te σ H xs) (h' : ER K tk σ H k) (hm : (xs = [] ∧ m = k) ∨ (m ∈ xs ∧ ∀ y, y ∈ xs → y ≤ m)) : ER K (tCKw (rMaxD K) (tCons te tNil) (tCons tk tNil)) σ H m := fun H1 e1 Q q => h H1 e1 _ fun v H2 e2 r => h'.evI H2 (e1.trans e2) _ fun H3 e3 => by
  obtain ⟨a, vs, rfl, s, rr⟩ := Rep.list r
  rw [Reps.ints rr] at s
  refine ⟨a, xs, k, rfl, rfl, Evl.ex_l e3 s, fun z hz hle => ?_, fun hx => ?_⟩
  · have : z = m := by
      rcases hm with ⟨h1, _⟩ | ⟨h1, h2⟩
      · rw [h1] at hz; cases hz
      · have a1 := hle m h1
        have a2 := h2 z hz
        omega
    rw [this]
    exact q _ H3 (e2.trans e3) (rep_int _)
  · have : k = m := by
      rcases hm with ⟨_, h2⟩ | ⟨h1, _⟩
      · exact h2.symm
      · rw [hx] at h1; cases h1
    rw [this]
    exact q _ H3 (e2.trans e3) (rep_int _)
end
end Z
set_option Elab.async false
set_option linter.all false
set_option maxRecDepth 100000
set_option maxHeartbeats 4000000
set_option autoImplicit false
/-! Z: two fors with a test; is of bools. -/
namespace Z
open PySem L2
open Evl (Ex)
open Dat
section
variable {K : PySem.W.Frag} {α β γ δ : Type} [Dat α] [Dat β] {σ : L2.St} {G H : Hp} {te tl tm ta tb : TE} {ti ti1 : TI} {tt : TT} {g : TG} {i k m n : Nat}
theorem el_gen2F [Flat β] {xs : List γ} {ys : γ → List δ} {tt : TT} {p : γ → δ → Bool} {Y : γ → V → Hp → Prop} {Y1 : δ → V → Hp → Prop} {f : γ → δ → β} (h : EIn ti σ H xs Y) (hY : GrowsT Y) (hY1 : Grows Y1)
    (h1 : ∀ x v H2, x ∈ xs → Ex H H2 → Y x v H2 → EInT ti1 ((wipe σ [i, k]).set i (some v)) H2 (ys x) Y1)
    (ht : ∀ x v y u H2, x ∈ xs → y ∈ ys x → Ex H H2 → Y x v H2 → Y1 y u H2 → ET K tt ((wipe ((wipe σ [i, k]).set i (some v)) [k]).set k (some u)) H2 (p x y))
    (he : ∀ x v y u H2, x ∈ xs → y ∈ ys x → p x y = true → Ex H H2 → Y x v H2 → Y1 y u H2 → ER K te ((wipe ((wipe σ [i, k]).set i (some v)) [k]).set k (some u)) H2 (f x y)) (hik : i ≠ k)
    (hz : (xs.flatMap fun x => ((ys x).filter (p x)).map (f x)).length ≤ 100000) : EL K (tLc2 ti (gName i) tYes ti1 (gName k) tt te [i, k] [k]) σ H (xs.flatMap fun x => ((ys x).filter (p x)).map (f x)) := fun H0 e0 Q q => h.run H0 e0 _ fun J H1 e1 W => by
  have hle : ∀ j a x, xs[j]? = some x → (((xs.take j).flatMap fun x => ((ys x).filter (p x)).map (f x)) ++ (((ys x).take a).filter (p x)).map (f x)).length ≤ (xs.flatMap fun x => ((ys x).filter (p x)).map (f x)).length := fun j a x hx => by
    have e : xs = xs.take j ++ xs.drop j := (List.take_append_drop j xs).symm
    conv => rhs; rw [e, List.flatMap_append]
    rw [List.length_append, List.length_append]
    refine Nat.add_le_add_left ?_ _
    have hl := (List.getElem?_eq_some_iff.mp hx).1
    have : xs.drop j = x :: xs.drop (j + 1) := by
      rw [List.drop_eq_getElem_cons hl, (List.getElem?_eq_some_iff.mp hx).2]
    rw [this, List.flatMap_cons, List.length_append, List.length_map, List.length_map]
    have := ((List.take_sublist a (ys x)).filter (p x)).length_le
    omega
  have hw1 : ∀ v, wipe ((wipe σ [i, k]).set i (some v)) [i, k] = wipe σ [i, k] := fun v => by
    have := wipe2' (τ := wipe σ [i, k]) hik (some v) none
    have e : ((wipe σ [i, k]).set i (some v)).set k none = (wipe σ [i, k]).set i (some v) := by
      show ((((σ.set k none).set i none).set i (some v)).set k none) = ((σ.set k none).set i none).set i (some v)
      rw [List.set_set, List.set_comm (some v) none hik, List.set_set]
    rw [e] at this
    rw [this]
    exact wipe_wipe _
  refine fun D hD => ⟨fun j m H' => m = xs.length - j ∧ j ≤ xs.length ∧ Ex H1 H' ∧ Own K H' D ((xs.take j).flatMap fun x => ((ys x).filter (p x)).map (f x)), ⟨_, rfl, Nat.zero_le _, Evl.Ex.new hD, by simpa using Own.nil⟩, ?_⟩
  rintro j m H' ⟨rfl, hj, eH, o⟩
  by_cases hlt : j < xs.length
  · obtain ⟨x, hx⟩ : ∃ x, xs[j]? = some x := ⟨_, List.getElem?_eq_getElem hlt⟩
    refine .inr ⟨W.go j H' hlt eH, fun H3 => Ex H1 H3 ∧ Own K H3 D ((xs.take (j + 1)).flatMap fun x => ((ys x).filter (p x)).map (f x)), fun H3 z => ⟨_, by omega, rfl, hlt, z⟩, fun v H2 hy => ?_⟩
    obtain ⟨e2, y⟩ := W.yld j x H' v H2 hx eH hy
    have hm := List.mem_of_getElem? hx
    have et : xs.take (j + 1) = xs.take j ++ [x] := by rw [List.take_succ, hx]; rfl
    refine ⟨hw1 v, ?_⟩
    have e02 := e0.trans (e1.trans (eH.trans e2))
    refine (h1 x v H2 hm e02 y).run H2 (Ex.refl _) _ fun J1 H4 e4 W1 => ?_
    refine ⟨fun a b H5 => b = (ys x).length - a ∧ a ≤ (ys x).length ∧ Ex H1 H5 ∧ Tups H4 H5 ∧ Own K H5 D (((xs.take j).flatMap fun x => ((ys x).filter (p x)).map (f x)) ++ (((ys x).take a).filter (p x)).map (f x)), ⟨_, rfl, Nat.zero_le _, eH.trans (e2.trans e4), fun _ _ z => z, by simpa using o.mono (e2.trans e4)⟩, ?_⟩
    rintro a b H5 ⟨rfl, ha, e5, t5, o5⟩
    by_cases hlt1 : a < (ys x).length
    · obtain ⟨z, hx1⟩ : ∃ z, (ys x)[a]? = some z := ⟨_, List.getElem?_eq_getElem hlt1⟩
      refine .inr ⟨W1.go a H5 hlt1 t5, fun H6 => Ex H1 H6 ∧ Tups H4 H6 ∧ Own K H6 D (((xs.take j).flatMap fun x => ((ys x).filter (p x)).map (f x)) ++ (((ys x).take (a + 1)).filter (p x)).map (f x)), fun H6 z => ⟨_, by omega, rfl, hlt1, z⟩, fun u H6 hy1 => ?_⟩
      obtain ⟨e6, y1⟩ := W1.yld a z H5 u H6 hx1 t5 hy1
      have hm1 := List.mem_of_getElem? hx1
      have et1 : (ys x).take (a + 1) = (ys x).take a ++ [z] := by rw [List.take_succ, hx1]; rfl
      refine ⟨wipe1 _, ?_⟩
      have e06 := e0.trans (e1.trans (e5.trans e6))
      have y6 := hY _ _ _ _ ((Tups.ex e4).trans (t5.trans (Tups.ex e6))) y
      refine ht x v z u H6 hm hm1 e06 y6 y1 H6 (Ex.refl _) _ fun H6' e6' => ?_
      cases hp : p x z with
      | false =>
        refine (if_neg Bool.false_ne_true).mpr ⟨e5.trans (e6.trans e6'), t5.trans (Tups.ex (e6.trans e6')), ?_⟩
        rw [et1, List.filter_append, List.filter_cons_of_neg (by simp [hp]), List.filter_nil, List.append_nil]
        exact o5.mono (e6.trans e6')
      | true =>
      refine (if_pos rfl).mpr ?_
      have e6 := e6.trans e6'
      refine he x v z u H6' hm hm1 hp (e0.trans (e1.trans (e5.trans e6))) (hY _ _ _ _ ((Tups.ex e4).trans (t5.trans (Tups.ex e6))) y) (hY1 _ _ _ _ e6' y1) H6' (Ex.refl _) _ fun w H7 e7 rw' => ?_
      obtain ⟨acc, g1, r1⟩ := (o5.mono (e6.trans e7)).ex
      have hlen := hle j (a + 1) x hx
      have et2 : (((ys x).take a ++ [z]).filter (p x)).map (f x) = (((ys x).take a).filter (p x)).map (f x) ++ [f x z] := by rw [List.filter_append, List.filter_cons_of_pos (by simp [hp]), List.filter_nil, List.map_append]; rfl
      rw [et1, et2, ← List.append_assoc, List.length_append] at hlen
      refine ⟨acc, g1, Evl.sz_lt ?_, ex_mut (e5.trans (e6.trans e7)) hD, t5.trans ((Tups.ex (e6.trans e7)).trans (Tups.upd g1)), acc ++ [w], upd_same, ?_⟩
      · rw [r1.len]
        simp only [List.length_singleton] at hlen
        omega
      · rw [cut_upd, et1, et2, ← List.append_assoc]
        exact r1.append (Reps.cons (rw'.imm (Tups.cut g1)) reps_nil)
    · have : a = (ys x).length := by omega
      subst this
      rw [List.take_length] at o5
      refine .inl ⟨W1.stop H5 t5, e5, ?_⟩
      rw [et, List.flatMap_append]
      simpa using o5
  · have : j = xs.length := by omega
    subst this
    rw [List.take_length] at o
    exact .inl ⟨W.stop H' eH, q D H' (fresh_back e1 hD) (e1.trans eH) o⟩
theorem er_isBl {a b : Bool} (h1 : ER K ta σ H a) (h2 : ER K tb σ H b) : ER K (tOp rIsB ta tb) σ H (decide (a = b)) := fun H1 e1 Q q => h1.evB H1 e1 _ fun H2 e2 => h2.evB H2 (e1.trans e2) _ fun H3 e3 => ⟨a, b, rfl, rfl, q _ H3 (e2.trans e3) (rep_bool _)⟩
theorem er_notBl {a b : Bool} (h1 : ER K ta σ H a) (h2 : ER K tb σ H b) : ER K (tOp rNotB ta tb) σ H (!decide (a = b)) := fun H1 e1 Q q => h1.evB H1 e1 _ fun H2 e2 => h2.evB H2 (e1.trans e2) _ fun H3 e3 => ⟨a, b, rfl, rfl, q _ H3 (e2.trans e3) (rep_bool _)⟩
end
end Z
set_option Elab.async false
set_option linter.all false
set_option maxRecDepth 100000
set_option maxHeartbeats 4000000
/-! Z: comprehensions and all() where an exception is handled; exceptions whose context is told. -/
namespace Z
open PySem PySem.Spec PyProof.Rows L2
open L2H (RoomH FnH HotC Hot1 TurnH PIH cxH fn_ofH)
inductive HdsAsN (X : Cx) : List ExceptHandler → List (Value × Nat × AsTS) → Prop
  | nil : HdsAsN X [] []
  | cons {x n : Str} {c : Value} {i : Nat} {ts : AsTS} {b₀ : Stmt} {suite : List Stmt} {np pos' : Pos} {hds : List ExceptHandler} {l : List (Value × Nat × AsTS)} (hi : X.N[i]? = some n) (hln : X.env.kindOf n = some .local) (hc : Names X x c)
      (hsu : ∀ (a : Addr) (oe : Obj) (cls : Value) (d : Option Addr) (pn : List (Addr × Obj)), L2N.Zn cls d oe → (∃ vs, oe.data = .fields vs) → PSs (X.suite a ((a, oe) :: pn)) (b₀ :: suite) (ts a cls d)) (r : HdsAsN X hds l) :
      HdsAsN X (.ExceptHandler (some (.Name x np)) (some n) (b₀ :: suite) pos' :: hds) ((c, i, ts) :: l)
section
variable {X : Cx} {body : List Stmt} {h₀ : ExceptHandler} {hds : List ExceptHandler} {l : List (Value × Nat × AsTS)} {pos : Pos} {tb : WX → TS} {Wout : WX}
theorem ps_try_asManyN (hs : X.stack = X.env :: X.outer) (hf : X.env.frame = some X.env.locals) (hN : X.N.Nodup) (tk : L2N.Takes X Wout)
    (hb : ∀ (W : WX) (pn : List (Addr × Obj)) (xe : Value → Shared → Prop), L2N.Takes (X.tr pn xe) W → PassesOwn (model X.prog X.w) X.A X.env xe → PSs (X.tr pn xe) body (tb W))
    (hh : HdsAsN X (h₀ :: hds) l) : PS X (.Try body (h₀ :: hds) [] [] pos) (fun D σ H => tb (wAsMany X.K Wout D l) D σ H) := by
  refine ⟨fun pins s σ H D I h => ?_⟩
  have ok := I.ok
  have hfr : X.A.frames = some (X.env :: X.outer) := by rw [ok.frames, hs]
  refine wpAny_Try_except ?_
  refine wpAny_mono ((hb (wAsMany X.K Wout D l) (X.pn ++ pins) (fun e s₁ => wpAny (model X.prog X.w) X.A (noteFrame e X.env) (fun _ s₂ => wpAny (model X.prog X.w) X.A (setFlight e none) (fun _ s₃ =>
    wpAny (model X.prog X.w) X.A (handleBy e X.env (h₀ :: hds)) (L2.SP X pins D) X.xe s₃) X.xe s₂) X.xe s₁) (fun u s' xx => ?_) PassesOwn.looking).run [] s σ H D (I.toTry _) h) (fun f s1 hsp => ?_) (fun e s1 he => he)
  · obtain ⟨a, B, sI, pins', σ', H', cls, d, rfl, J', nb, up, sky, na, os, ag, w⟩ := xx
    have J : Inv X pins σ' H' sI := J'.ofTry ok
    have sky' : Sky B (X.env :: X.outer) a (L2N.Zn cls d) X.env.locals s'.heap := by rw [← hs]; exact sky
    show wpAny (model X.prog X.w) X.A (noteFrame (.ref a) X.env) _ _ _
    refine L2N.Sky.land L2N.Zn.steady hfr hf sky' fun h3 fl3 up3 => ?_
    have J3 : Inv X pins σ' H' { s' with heap := h3 } := J.landed nb fl3.1 (up.trans up3) os ag
    obtain ⟨oe3, vs3, he3, hz3, hd3⟩ := fl3.there
    have nfr : a ∉ frs (X.env :: X.outer) := fun hm => by
      obtain ⟨_, o', e', hnf⟩ := fl3.2.2.1.mem hm
      rw [he3] at e'; cases e'
      exact hnf _ hd3
    have nL : a ≠ X.env.locals := fun z => nfr (List.mem_filterMap.mpr ⟨X.env, List.mem_cons_self, by rw [hf, z]⟩)
    have nF : a ∉ X.fs := fun hm => by
      obtain ⟨e, he, q⟩ := List.mem_filterMap.mp hm
      exact nfr (List.mem_filterMap.mpr ⟨e, List.mem_cons_of_mem _ he, q⟩)
    have S3 := J3.suite he3 hd3 na nL nF
    have LT : PySem.W.Looks (model X.prog X.w) h3 (typeOf (.ref a)) cls := fun A Q E s k q => wpAny_typeOf_ref (k _ _ he3) (by rw [hz3.1]; exact q)
    clear h hb
    suffices go : ∀ {hds' : List ExceptHandler} {l' : List (Value × Nat × AsTS)}, HdsAsN X hds' l' → wAsMany X.K Wout D l' cls d σ' H' →
        wpAny (model X.prog X.w) X.A (handleBy (.ref a) X.env hds') (L2.SP X pins D) X.xe { s' with heap := h3 } from go hh w
    intro hds' l' hk
    induction hk with
    | nil =>
      intro w
      refine wpAny_handleBy_nil ?_
      obtain ⟨k1, k2, k3, oe, vs, T, oT, ts', he, hz, hd, h1, hr⟩ := id fl3
      unfold PySem.passOn
      refine wpAny_bind (wpAny_field he hd h1 ?_)
      rw [if_neg (show ¬ ((Value.ref T == Value.none) = true) from by simp)]
      have fin : wpAny (model X.prog X.w) X.A (setFlight (.ref a) X.env.frame) (fun _ s4 => wpAny (model X.prog X.w) X.A (throw (.ref a) : Sem Flow) (L2.SP X pins D) X.xe s4) X.xe { s' with heap := h3 } := by
        rw [hf]
        refine HandSPX.setFlight_upZ fl3 fun h4 hh4 up4 => wpAny_throw (tk _ _ ?_)
        exact ⟨a, B, sI, pins, σ', H', cls, d, rfl, J, nb, (up.trans up3).trans up4, .inr (.inr (by rw [hs]; exact hh4)), na, os, ag, w⟩
      first
        | exact wpAny_bind (wpAny_pure (wpAny_bind fin))
        | exact wpAny_bind fin
    | @cons x n c i ts b₀ suite np pos' hds2 l2 hi hln hc hsu r ih =>
      intro w
      obtain ⟨b, hb1, hyes, hno⟩ := w
      have hloc : Loc X.env.scope n := .inl hln
      refine wpAny_handleBy_cons (codeAny_handlers_test ?_) (by intro q; cases q)
      have LM := PySem.W.exm_one (M := model X.prog X.w) (J3.kIn) LT hb1
      have test : ∀ {Q : Value → Shared → Prop} {E : Value → Shared → Prop}, Q c { s' with heap := h3 } → wpAny (model X.prog X.w) (X.A.mark (some (.ref a))) (eval (.Name x np) X.env) Q E { s' with heap := h3 } := fun {Q E} q => by
        obtain ⟨hg, hdbg, hm | ⟨hm, hv, hnn⟩⟩ := hc
        · exact ld_glob (X := X.suite a ((a, oe3) :: (X.pn ++ pins))) S3 hg hm q hdbg
        · exact ld_blt (X := X.suite a ((a, oe3) :: (X.pn ++ pins))) S3 hg hm hv q hnn hdbg
      refine test (LM.here ?_)
      cases b with
      | true =>
        refine codeAny_handlers_suite_as ?_
        refine HandSPX.lands_againZ fl3 fun h4 fl4 up4 => ?_
        have J4 : Inv X pins σ' H' { s' with heap := h4 } := J.landed nb fl4.1 ((up.trans up3).trans up4) os ag
        obtain ⟨oe4, vs4, he4, hz4, hd4⟩ := fl4.there
        have S4 := J4.suite he4 hd4 na nL nF
        refine store_ok (X := X.suite a ((a, oe4) :: (X.pn ++ pins))) (v := .ref a) S4 hN hi hloc rfl (fun s5 S5 => ?_) (.inr hln)
        refine wpAny_mono ((hsu a oe4 cls d (X.pn ++ pins) hz4 ⟨_, hd4⟩).run [] s5 _ H' _ S5 (hyes rfl a na)) (fun f s6 hsp => ?_) (fun _ _ z => False.elim z)
        have end_ : ∀ {σ6 : L2.St} {H6 : Hp} {Q : Shared → Prop}, Inv (X.suite a ((a, oe4) :: (X.pn ++ pins))) [] σ6 H6 s6 → (∀ s7, Inv X pins (σ6.set i none) H6 s7 → Q s7) →
            wpAny (model X.prog X.w) X.A (do bindName X.env n .none; unbindBehindTheSuite X.env n pos') (fun _ s7 => Q s7) X.xe s6 := fun {σ6 H6 Q} S6 hq => gone_ok (S6.unsuite ok) hN hi hln hq
        cases f with
        | next =>
          obtain ⟨σ6, H6, S6, q6⟩ := hsp
          exact end_ S6 fun s7 J7 => ⟨_, _, J7, q6⟩
        | brk =>
          obtain ⟨σ6, H6, S6, q6⟩ := hsp
          exact end_ S6 fun s7 J7 => ⟨_, _, J7, q6⟩
        | cont =>
          obtain ⟨σ6, H6, S6, q6⟩ := hsp
          exact end_ S6 fun s7 J7 => ⟨_, _, J7, q6⟩
        | ret u =>
          obtain ⟨v6, σ6, H6, S6, r6, q6⟩ := hsp
          exact end_ S6 fun s7 J7 => ⟨_, _, _, J7, r6, q6⟩
      | false =>
        show wpAny _ X.A (handleBy (.ref a) X.env hds2) _ _ _
        exact ih (hno rfl)
  · cases f with
    | next =>
      obtain ⟨σ', H', J', q⟩ := hsp
      exact wpAny_execs_nil ⟨σ', H', J'.ofTry ok, q⟩
    | brk =>
      obtain ⟨σ', H', J', q⟩ := hsp
      exact ⟨σ', H', J'.ofTry ok, q⟩
    | cont =>
      obtain ⟨σ', H', J', q⟩ := hsp
      exact ⟨σ', H', J'.ofTry ok, q⟩
    | ret u =>
      obtain ⟨v, σ', H', J', r, q⟩ := hsp
      exact ⟨v, σ', H', J'.ofTry ok, r, q⟩
end
theorem roomH {j k : Nat} {A : Around} {v : Option Value} (r : Room k A) (h : j ≤ k) : RoomH j (A.mark v) := ⟨by have := r.dp; show A.depth + 3 * j + 5 < _; omega, by have := r.un; show A.units + 16 * j + 200 < _; omega⟩
theorem roomW_H {j k : Nat} {A : Around} (r : RoomH k A) (h : j ≤ k) : RoomW j A := ⟨by have := r.dp; omega, by have := r.un; omega⟩
theorem FnW.hot {P : Program} {w : World} {K : PySem.W.Frag} {mg : Str → Option Value} {base : Heap} {CX : CXT} {k : Nat} {f : Addr} {fd : FuncData} {ps : List Str} {sp : Sp} (F : FnW P w K mg base CX k f fd ps sp) : FnH P w K mg base CX k f fd ps sp :=
  ⟨F.len, fun A outer s H args us vs Q E p hr _ _ => F.run A outer s H args us vs Q E (roomW_H hr (Nat.le_refl _))⟩
/-- the handled exception of a suite stands pinned -/
theorem hot_suite {X : Cx} {a : Addr} {oe : Obj} {cls : Value} {d : Option Addr} {pn : List (Addr × Obj)} (hz : L2N.Zn cls d oe) (hf : ∃ vs, oe.data = .fields vs) : HotC (X.suite a ((a, oe) :: pn)) :=
  let ⟨vs, e⟩ := hf
  ⟨(a, oe), ⟨rfl, vs, e, hz.2.2 vs e⟩, List.mem_cons_self⟩
theorem fun_okH {CX : CXT} {P : Program} {w : World} {K : PySem.W.Frag} {mg : Str → Option Value} {base : Heap} {k : Nat} {f : Addr} {fd : FuncData} {x qual : Str} {st : Stmt} {N ps : List Str} {sp : Sp} (F : Fun K x qual st f fd) (S : FnScope N ps (defScope st))
    (len : ∀ vs H Q E, sp vs H Q E → vs.length = ps.length)
    (hbody : ∀ (cdv : Value) (A : Around) (outer : List Env) (s : Shared) (H : Hp) (vs : List V) (Q : VK) (E : XK) (p : Addr × Obj), HotC (cxH CX P w K mg base N qual (defScope st) f cdv A outer s H E p) → RoomH k (A.deeper (envOfC qual (defScope st) s.heap.objs.size f cdv)) → sp vs H Q E →
      ∃ t, PSs (cxH CX P w K mg base N qual (defScope st) f cdv A outer s H E p) (defBody st) t ∧ t { nx := fun _ H' => Q .non H', rt := Q } (L2.start N vs) H) : FnH P w K mg base CX (k + 1) f fd ps sp := by
  obtain ⟨oc, od, kV, doc, pm, an, cdv, ct, osl, rfl, lk, hcd⟩ := F.ex
  exact fn_ofH lk hcd S len fun A outer s H vs Q E p hot hr h => hbody cdv A outer s H vs Q E p ⟨p, hot, List.mem_singleton.mpr rfl⟩ hr h
/-! ### a block that bears what is pinned -/
abbrev blkH (X : Cx) (s : Shared) (H : Hp) (scope : Scope) (cenv : Env) (fp : List Addr) : Cx := { X.blk s H scope cenv fp with pn := X.pn }
section
variable {X : Cx} {pins : List (Addr × Obj)} {σ : L2.St} {H : Hp} {s : Shared}
theorem block_startH {scope : Scope} {own : List (Str × Nat)} {fp : List Addr} (I : Inv X pins σ H s) (ok : BlkOk X.N X.env.scope scope own) (hN : X.N.Nodup) (hfp : ∀ b ∈ fp, FpOk X pins H b ∧ b < s.heap.objs.size) :
    Inv (blkH X s H scope (compEnvC scope (cellsFrom (s.heap.objs.size + 1) scope.names (cloFrom X.env.cells scope.names [])) s.heap.objs.size X.env) fp) [] (wipe σ (own.map (·.2))) H { s with heap := pushCells (s.heap.push { cls := .type "dict", data := .dict #[] }) scope.names } := by
  have J := block_start I ok hN hfp
  have kp : ∀ b o, s.heap.get? b = some o → (pushCells (s.heap.push { cls := .type "dict", data := .dict #[] }) scope.names).get? b = some o := fun b o e => pushCells_keeps _ _ _ _ (Heap.get?_push_of_some _ e)
  refine ⟨⟨J.ok.mod, J.ok.kind, J.ok.glob, J.ok.blt, J.ok.above, J.ok.inj, J.ok.has, J.ok.cab, J.ok.hd, J.ok.frames, J.ok.stk, J.ok.exf, J.ok.bs, J.ok.bsz, J.ok.noex, J.ok.exfs, J.ok.funs, J.ok.frf⟩,
    J.os, J.bare, J.base, J.loc, J.cell, J.free, J.freeC, fun p hp => ?_, J.hok, J.len⟩
  have hp : p ∈ X.pn ++ [] := hp
  have P1 := I.pin p (List.mem_append_left _ (by simpa using hp))
  have hlt := Heap.lt_size P1.1
  exact ⟨kp _ _ P1.1, P1.2.1, Nat.ne_of_lt hlt, fun hm => (List.mem_cons.mp (I.stkSub p.1 hm)).elim P1.2.2.1 P1.2.2.2.1, P1.2.2.2.2⟩
end
section
variable {X : Cx}
theorem lc_coreH {pins : List (Addr × Obj)} {s : Shared} {σ : L2.St} {H : Hp} {Q : VK} {elt tg iter : Expr} {ifs : List Expr} {scope : Scope} {own : List (Str × Nat)} {pos pos' : Pos} {wi : TI} {g : TG} {tt : TT} {te : TE} {use : Option (Value → Sem Unit)} {Qf : Value → Shared → Prop}
    (hc : HotC X) (hN : X.N.Nodup) (I : Inv X pins σ H s) (hi : PIH X tg iter wi) (ok : BlkOk X.N X.env.scope scope own)
    (hg : ∀ (s : Shared) (H : Hp) (C : Addr) (cl : List (Str × Addr)) (fp : List Addr), PG (blkH X s H scope (compEnvC scope cl C X.env) fp) tg g) (ht : ∀ (s : Shared) (H : Hp) (C : Addr) (cl : List (Str × Addr)) (fp : List Addr), PTs (blkH X s H scope (compEnvC scope cl C X.env) fp) ifs tt)
    (he : ∀ (s : Shared) (H : Hp) (C : Addr) (cl : List (Str × Addr)) (fp : List Addr), PE (blkH X s H scope (compEnvC scope cl C X.env) fp) elt te) (hs : ∀ x, foldedSetIterable iter X.env x = pure x)
    (h : tLc wi g tt te (own.map (·.2)) σ H Q)
    (hRR : ∀ D C s' m H', Inv X pins σ H' s' → Q (.ref D) H' → s'.heap.Ns C m → FpOk X pins H' C → compPost (model X.prog X.w) X.A X.xe use Qf (.ref D) C (.ok .next) s') :
    wpAny (model X.prog X.w) X.A (comprehension (.ListComp elt [⟨tg, iter, ifs, 0⟩] scope pos) scope X.env pos' (newList []) false (eval iter X.env) use) Qf X.xe s := by
  have hfree : ∀ y ∈ scope.names, y.2 = .free → ∃ c, X.env.cells.lookup y.1 = some c := fun y hy e => by
    rcases ok.free y hy e with k | k
    · exact I.ok.has _ (.inl k)
    · exact I.ok.has _ (.inr k)
  refine wpAny_comprehension_free (use := use) rfl hs (closure_ok hfree) ok.kind (fun y hy e => by rw [ok.uniq y hy, e])
    (thn (hi.run pins s σ H _ I h) fun xv s1 hx => thn hx fun itv s2 h2 => ?_)
  obtain ⟨it, fp, tn, J, H2, e, I2, T, st2, f2, q⟩ := h2
  subst e
  refine wpAny_newObj_type (newEnv_comp ?_) (by show 0 ≤ sizeLine; decide)
  generalize hD : s2.heap.objs.size = D
  have hDn : H2 D = none := I2.hok.fresh (Nat.le_of_eq hD)
  obtain ⟨W, ⟨m0, w0⟩, turn⟩ := q D hDn
  -- the new list
  generalize hs3 : ({ s2 with heap := s2.heap.push { cls := .type "list", data := .seq ([] : List Value).toArray } } : Shared) = s3
  have I3 : Inv X pins σ (upd H2 D (.lst [])) s3 := by
    rw [← hs3]
    refine I2.laid (t' := s2.toks) (fun b o e => Heap.get?_push_of_some _ e) (Nat.le_of_eq hD) ⟨Nat.zero_le _, [], 0, .nil, ?_⟩
    rw [← hD]
    exact Heap.get?_push_size _ rfl
  have h3 : s3.heap = s2.heap.push { cls := .type "list", data := .seq ([] : List Value).toArray } := by rw [← hs3]
  have sz : ∀ b ∈ fp, b < s2.heap.objs.size := fun b hb => by
    obtain ⟨o, e, _⟩ := T.obj _ _ st2 b hb
    exact Heap.lt_size e
  have f3 : ∀ b ∈ fp, FpOk X pins (upd H2 D (.lst [])) b ∧ b < s3.heap.objs.size := fun b hb => by
    have hlt := sz b hb
    refine ⟨⟨?_, (f2 b hb).2⟩, by rw [h3, Heap.size_push]; exact Nat.lt_succ_of_lt hlt⟩
    rw [upd_ne (by rw [← hD]; exact Nat.ne_of_lt hlt)]
    exact (f2 b hb).1
  have st3 : tn 0 s3.heap := T.keep _ _ _ st2 fun b _ o e => by rw [h3]; exact Heap.get?_push_of_some _ e
  have I4 := block_startH I3 ok hN f3
  have pg := hg s3 (upd H2 D (.lst [])) s3.heap.objs.size (cellsFrom (s3.heap.objs.size + 1) scope.names (cloFrom X.env.cells scope.names [])) fp
  have pt := ht s3 (upd H2 D (.lst [])) s3.heap.objs.size (cellsFrom (s3.heap.objs.size + 1) scope.names (cloFrom X.env.cells scope.names [])) fp
  have pe := he s3 (upd H2 D (.lst [])) s3.heap.objs.size (cellsFrom (s3.heap.objs.size + 1) scope.names (cloFrom X.env.cells scope.names [])) fp
  show codeAny _ _ (.compStart (.ListComp elt [⟨tg, iter, ifs, 0⟩] scope pos) 0 (.ref it) (.ref D) (compEnvC scope (cellsFrom (s3.heap.objs.size + 1) scope.names (cloFrom X.env.cells scope.names [])) s3.heap.objs.size X.env)) (compPost (model X.prog X.w) X.A X.xe use Qf (.ref D) s3.heap.objs.size) { s3 with heap := pushCells (s3.heap.push { cls := .type "dict", data := .dict #[] }) scope.names }
  have nfp : ∀ b ∈ fp, (upd H2 D (.lst [])) b = none := fun b hb => (f3 b hb).1.1
  generalize hce : compEnvC scope (cellsFrom (s3.heap.objs.size + 1) scope.names (cloFrom X.env.cells scope.names [])) s3.heap.objs.size X.env = ce at I4 pg pt pe ⊢
  have cL : ce.locals = s3.heap.objs.size := by subst hce; rfl
  generalize hH3 : upd H2 D (.lst []) = H3 at I3 I4 pg pt pe w0 nfp f3
  generalize hs4 : ({ s3 with heap := pushCells (s3.heap.push { cls := .type "dict", data := .dict #[] }) scope.names } : Shared) = s4 at I4 ⊢
  have st4 : tn 0 s4.heap := T.keep _ _ _ st3 fun b _ o e => by rw [← hs4]; exact pushCells_keeps _ _ _ _ (Heap.get?_push_of_some _ e)
  have stat : ∀ {σ' : L2.St} {H' : Hp} {s' : Shared}, Inv (blkH X s3 H3 scope ce fp) [] σ' H' s' → (∀ b ∈ fp, H' b = none) → ∀ b ∈ fp, FpOk (blkH X s3 H3 scope ce fp) [] H' b := fun {σ' H' s'} I' hn b hb =>
    ⟨hn b hb, (I'.ok.exf b hb).1, I'.ok.exfs b hb, .inl hb, fun x c e => (I'.ok.exf b hb).2 x c e, fun p hp z => absurd (z ▸ (f3 b hb).1.2.2.2.2.2 p (List.mem_append_left _ (by simpa using (show p ∈ X.pn ++ [] from hp)))) (fun q => q rfl)⟩
  have loop : codeAny (model X.prog X.w) X.A (.compLoop (.ListComp elt [⟨tg, iter, ifs, 0⟩] scope pos) 0 (.ref it) (.ref D) ce) (compPost (model X.prog X.w) X.A X.xe use Qf (.ref D) s3.heap.objs.size) s4 := by
    refine compLoop_any (fun n s' => ∃ i H', Inv (blkH X s3 H3 scope ce fp) [] (wipe σ (own.map (·.2))) H' s' ∧ tn i s'.heap ∧ (∀ b ∈ fp, H' b = none) ∧ W i n H') ?_ m0 ⟨0, H3, I4, st4, nfp, w0⟩
    rintro n s5 ⟨i, H5, I5, st5, n5, w5⟩
    rcases turn i n H5 w5 with ⟨stop, qq⟩ | ⟨go, Nx, hNx, step⟩
    · have td := T.done (blkH X s3 H3 scope ce fp) rfl rfl rfl hc i [] s5 _ H5 (fun _ _ => False) I5 (stat I5 n5) st5 stop
      refine thnF td fun r s6 ⟨hr, I6⟩ => ?_
      subst hr
      -- back in the def's context
      have I7 : Inv X pins σ H5 s6 := I3.call' (ch := fp) I6.os I6.base I6.hok I6.bare fun b hb => ⟨(f3 b hb).1.2.2.2.1, (f3 b hb).1.2.1, (f3 b hb).1.2.2.2.2.1, (f3 b hb).1.2.2.2.2.2⟩
      have nC : H5 s3.heap.objs.size = none := by
        have z : H5 ce.locals = none := I6.free
        rw [cL] at z
        exact z
      obtain ⟨m, hn, _⟩ := I6.loc
      have hn : s6.heap.Ns ce.locals m := hn
      rw [cL] at hn
      exact hRR D s3.heap.objs.size s6 m H5 I7 qq hn (I3.fpOk (Nat.le_refl _) nC)
    · have ti := T.item (blkH X s3 H3 scope ce fp) rfl rfl rfl hc i [] s5 _ H5 (fun _ _ => False) I5 (stat I5 n5) st5 go
      refine thnF ti fun r s6 ⟨u, hr, h6⟩ => ?_
      subst hr
      refine thnF h6 fun _ s7 ⟨x, H7, I7, r7, y7, st7, n7⟩ => ?_
      have I7' := I7.pinned (stat I7 n7) (T.obj _ _ st7)
      refine thnF (pg.run _ s7 _ H7 x u _ I7' r7 (step x H7 y7)) fun _ s8 ⟨σ8, H8, I8, hw8, q8⟩ => ?_
      refine thnF (pt.run _ s8 σ8 H8 _ I8 q8) fun b s9 ⟨H9, I9, q9⟩ => ?_
      -- the turn's end
      have fin : ∀ {s' : Shared} {H' : Hp}, Inv (blkH X s3 H3 scope ce fp) ([] ++ pinsAt fp s7.heap) σ8 H' s' → Nx H' → ∃ m, m < n ∧ ∃ i H', Inv (blkH X s3 H3 scope ce fp) [] (wipe σ (own.map (·.2))) H' s' ∧ tn i s'.heap ∧ (∀ b ∈ fp, H' b = none) ∧ W i m H' := fun {s' H'} I' nx => by
        obtain ⟨m', hm, w'⟩ := hNx H' nx
        have pin' : ∀ b ∈ fp, ∀ o, s7.heap.get? b = some o → s'.heap.get? b = some o ∧ H' b = none := fun b hb o e =>
          let z := I'.pin (b, o) (List.mem_append_right _ (List.mem_append_right _ (mem_pinsAt hb e)))
          ⟨z.1, z.2.1⟩
        have hl : (wipe σ (own.map (·.2))).length = σ8.length := by rw [← hw8, wipe_length]
        refine ⟨m', hm, i + 1, H', (I'.unpinned (pins := [])).weak hl (fun j v e => ?_), T.keep _ _ _ st7 fun b hb o e => (pin' b hb o e).1, fun b hb => ?_, w'⟩
        · rw [← hw8] at e
          exact (wipe_some e).1
        · obtain ⟨o, e, _⟩ := T.obj _ _ st7 b hb
          exact (pin' b hb o e).2
      cases b with
      | false =>
        simp only [Bool.false_eq_true, if_false] at q9 ⊢
        exact fin I9 q9
      | true =>
        simp only [if_true] at q9 ⊢
        refine thnF (pe.run _ s9 σ8 H9 _ I9 q9) fun z s10 ⟨yv, H10, I10, r10, acc, hD10, hz10, nx⟩ => ?_
        exact app_ok (X := blkH X s3 H3 scope ce fp) I10 hD10 hz10 r10 fun s11 I11 => fin I11 nx
  exact codeAny_compStart_list loop (T.self X.A 0 _ _ _ st4 loop)
/-- as a value -/
theorem pe_lcH {elt tg iter : Expr} {ifs : List Expr} {scope : Scope} {own : List (Str × Nat)} {pos : Pos} {wi : TI} {g : TG} {tt : TT} {te : TE} (hc : HotC X) (hN : X.N.Nodup) (hi : PIH X tg iter wi) (ok : BlkOk X.N X.env.scope scope own)
    (hg : ∀ (s : Shared) (H : Hp) (C : Addr) (cl : List (Str × Addr)) (fp : List Addr), PG (blkH X s H scope (compEnvC scope cl C X.env) fp) tg g) (ht : ∀ (s : Shared) (H : Hp) (C : Addr) (cl : List (Str × Addr)) (fp : List Addr), PTs (blkH X s H scope (compEnvC scope cl C X.env) fp) ifs tt)
    (he : ∀ (s : Shared) (H : Hp) (C : Addr) (cl : List (Str × Addr)) (fp : List Addr), PE (blkH X s H scope (compEnvC scope cl C X.env) fp) elt te) (hs : ∀ x, foldedSetIterable iter X.env x = pure x := by intro _; rfl) :
    PE X (.ListComp elt [⟨tg, iter, ifs, 0⟩] scope pos) (tLc wi g tt te (own.map (·.2))) := by
  refine ⟨fun pins s σ H Q I h => ?_⟩
  rw [eval_ListComp]
  refine lc_coreH hc hN I hi ok hg ht he hs h fun D C s' m H' I' q hn f => ⟨m, hn, fun h'' sb => ?_⟩
  obtain ⟨f0, f1, f2, f3, f4, f5⟩ := f
  exact ⟨.ref D, H', I'.turned (t' := s'.toks) (fun b o hb e => (sb.2 b hb).trans e) f0 f1 f3 f4 f5, rfl, q⟩
end
section
variable {prog : Program} {w : World} {A : Around} {E : Value → Shared → Prop} {s : Shared}
open HotX in
theorem next_list_end_hot {it l x1 : Addr} {i : Nat} {items : Array Value} {Q : Option Value → Shared → Prop} (hot : HotX.HotAt A x1 s.heap)
    (hit : s.heap.IsListIter it l i) (hl : s.heap.IsList l items) (hx : items[i]? = none) (hne1 : x1 ≠ it)
    (hQ : ∀ h', Heap.ExtBut it s.heap h' → Q none { s with heap := h' }) : wpAny (model prog w) A (pyNext (.ref it)) Q E s := by
  obtain ⟨hh, o1, vs1, h1, d1, c1⟩ := hot
  obtain ⟨o, ho, hc, hd⟩ := id hit
  obtain ⟨ol, hol, _, nl, hdl⟩ := hl
  unfold pyNext
  refine wpAny_bind (wpAny_attempt (wpAny_callSpecial?_slot (name := Str.ofString "__next__") hit.typeIs PySem.slot_listiter_next
    (wpAny_call_entry PySem.slot_listiter_next hit.typeIs PySem.entry_listiter_next ?_ (PySem.args_listiter_next _))))
  show wpAny _ _ (field (.ref it) 0 >>= _) _ _ s
  refine wpAny_bind (wpAny_field ho hd (x := .ref l) rfl ?_)
  show wpAny _ _ (if (Value.ref l == Value.none) = true then _ else _) _ _ s
  rw [if_neg (show ¬ ((Value.ref l == Value.none) = true) from Bool.false_ne_true)]
  show wpAny _ _ (field (.ref it) 1 >>= _) _ _ s
  refine wpAny_bind (wpAny_field ho hd (x := .int i 0) rfl ?_)
  show wpAny _ _ (seqItems? (.ref l) >>= _) _ _ s
  refine wpAny_bind (wpAny_seqItems hol hdl ?_)
  simp only [Int.toNat_natCast, hx]
  refine wpAny_bind (wpAny_rule (wpAny_bind (wpAny_setField ho hd (by simp) ?_)))
  have h1u : (s.heap.update it (Obj.mapFields (·.setIfInBounds 0 .none))).get? x1 = some o1 := by
    rw [Heap.get?_update_other _ _ (Ne.symm hne1)]
    exact h1
  show wpAny _ _ (newExc (.type "StopIteration") [] >>= _) _ _ _
  refine wpAny_bind ?_
  simp only [newExc, newTuple]
  refine wpAny_bind (wpAny_newObj_type ?_ (by size_fits))
  refine wpAny_bind (m := firstArgMember _ _) (wpAny_of_eq (a := Value.none) (by first | rfl | (simp only [firstArgMember]; rfl)) ?_)
  refine wpAny_newObj_type ?_ (by size_fits)
  refine raiseNew_hot ⟨hh, o1, vs1, Heap.get?_push_of_some _ (Heap.get?_push_of_some _ h1u), d1, c1⟩ (Nat.ne_of_lt (Heap.lt_size (Heap.get?_push_of_some _ h1u))) (Heap.get?_push_size _ rfl) rfl (by first | (simp; done) | (simp; omega) | (simp only [Array.size_append]; simp; omega)) ?_
  refine wpAny_bind (wpAny_isInstance (T := "StopIteration") (b := true) ⟨_, Heap.get?_update_self _ (Heap.get?_push_size _ rfl) rfl, rfl⟩ isSubtype_stop ?_)
  refine wpAny_pure (hQ _ fun b o hb e => ?_)
  have eu : (s.heap.update it (Obj.mapFields (·.setIfInBounds 0 .none))).get? b = some o := by
    rw [Heap.get?_update_other _ _ (Ne.symm hb)]
    exact e
  rw [Heap.get?_update_other _ _ (Nat.ne_of_gt (Heap.lt_size (Heap.get?_push_of_some _ eu)))]
  exact Heap.get?_push_of_some _ (Heap.get?_push_of_some _ eu)
theorem walksList_hot {x1 : Addr} (I ax : Addr) (hne : ax ≠ I) (hn1 : x1 ≠ I) (items : Array Value) :
    PySem.Walks prog w A I [I, ax, x1] [I] items.size (fun i v => items[i]? = some v) (fun i h => h.IsListIter I ax i ∧ h.IsList ax items ∧ HotX.HotAt A x1 h) where
  sub := fun b hb => by simp at hb; simp [hb]
  frame := fun _ _ _ st hk => ⟨st.1.at fun o e => hk I (by simp) o e, st.2.1.at fun o e => hk ax (by simp) o e, by
    obtain ⟨hh, o1, vs1, h1, d⟩ := st.2.2
    exact ⟨hh, o1, vs1, hk x1 (by simp) _ h1, d⟩⟩
  item := fun i s Q E hi st hQ => by
    refine wpAny_pyNext_list_item st.1 st.2.1 (x := items[i]) (by simp [hi]) fun h' hit' hs' => ?_
    refine hQ _ h' s.toks (by simp [hi]) ⟨hit', st.2.1.extBut hs'.extBut hne, ?_⟩ fun b o hb e => hs'.extBut b o (fun h => hb (by simp [h])) e
    obtain ⟨hh, o1, vs1, h1, d⟩ := st.2.2
    exact ⟨hh, o1, vs1, hs'.extBut _ _ hn1 h1, d⟩
  done := fun s Q E st hQ => next_list_end_hot st.2.2 st.1 st.2.1 (by simp) hn1 fun h' he' => hQ h' s.toks fun b o hb e => he' b o (fun h => hb (by simp [h])) e
  self := fun _ _ _ _ st hQ => wpAny_pyIter_listiter st.1 hQ
end
section
variable {X : Cx}
theorem cr_allH (hc : HotC X) : CallR X (.builtin "all") (rAll X.K) := by
  intro pins s σ H vs us Q I r h
  obtain ⟨a, bs, rfl, hs, q⟩ := h
  obtain ⟨its, rv, hl, _⟩ := I.list hs
  rw [Vals.ref1 r]
  have hb := rv.bls
  obtain ⟨x1, hot⟩ := hc.at I
  refine call_all_walk (iter_any hl.isList fun s₂ e2 st hne => ?_)
  subst e2
  have hn1 : x1 ≠ s.heap.objs.size := by
    obtain ⟨_, o1, _, h1, _⟩ := hot
    exact Nat.ne_of_lt (Heap.lt_size h1)
  refine ⟨_, _, _, _, _, _, _, rfl, walksList_hot (A := X.A.in1) (x1 := x1) _ a hne hn1 its.toArray, ⟨st.1, st.2, ?_⟩, truth_bools hb, fun h' tk hk => ?_⟩
  · obtain ⟨hh, o1, vs1, h1, d⟩ := hot
    exact ⟨hh, o1, vs1, Heap.get?_push_of_some _ h1, d⟩
  refine ⟨.bl _, H, I.kept fun b o eo => hk b o (fun hmem => ?_) (Heap.get?_push_of_some _ eo), ?_, q⟩
  · rcases List.mem_cons.mp hmem with e1 | hmem
    · exact absurd (e1 ▸ Heap.lt_size eo) (Nat.lt_irrefl _)
    · cases hmem
  · show Value.bool _ = Value.bool _
    rw [← L2.all_range, hb, List.size_toArray, List.length_map]
theorem k_cr_allH {K : PySem.W.Frag} (e : X.K = K) (hc : HotC X) : CallR X (.builtin "all") (rAll K) := by
  subst e
  exact cr_allH hc
theorem roomH_H {j k : Nat} {A : Around} (r : RoomH k A) (h : j ≤ k) : RoomH j A := r.mono h
theorem pe_callHot {CX : CXT} {k : Nat} {f : Addr} {fd : FuncData} {ps : List Str} {sp : Sp} {x : Str} {q pos : Pos} {e : Expr} {es : List Expr} {t : TA} (F : FnH X.prog X.w X.K X.mg X.base CX k f fd ps sp) (hr : RoomH k X.A) (hc : HotC X) (hg : Gl X x) (hm : X.mg x = some (.ref f)) (hk : PySem.W.keepIn X.K (.ref f) = true) (hb : Binds X.K fd ps []) (hx : ∀ σ, PassesAt CX X σ E0)
    (ha : PA X (e :: es) t) (hdb : (x == ("__debug__" : Str)) = false := by decide) (he : starEach (e :: es) X.env = (false, eval e X.env) :: starEach es X.env := by rfl) (hpl : (backTo pos (starEach es X.env)).any (·.1) = false := by rfl) :
    PE X (.Call (.Name x q) (e :: es) [] pos) (tCall sp [] E0 t) := ⟨fun pins s σ H Q I h => by
  refine (L2H.pe_callH (E := fun _ => E0) F hr hc hg hm hk hb hx ha hdb he hpl).run pins s σ H Q I ?_
  have h : t σ H fun vs H1 => sp (vs ++ []) H1 Q E0 := h
  simp only [List.append_nil] at h
  exact h⟩
/-! ### exceptions whose context is told -/
theorem okXN {P : Program} {w : World} {K : PySem.W.Frag} {mg : Str → Option Value} {base : Heap} {x qual : Str} {st : Stmt} {f : Addr} {fd : FuncData} {N ps : List Str} {k : Nat} {sp : Sp} (F : Fun K x qual st f fd) (S : FnScope N ps (defScope st)) (len : ∀ vs H Q E, sp vs H Q E → vs.length = ps.length)
    (hbody : ∀ (cdv : Value) (A : Around) (outer : List Env) (s : Shared) (H : Hp) (vs : List V) (Q : VK) (E : XK), Room k (A.deeper (envOfC qual (defScope st) s.heap.objs.size f cdv)) → sp vs H Q E →
      ∃ t, PSs (cxOf (L2N.CX P w) P w K mg base N qual (defScope st) f cdv A outer s H E) (defBody st) t ∧ t { nx := fun _ H' => Q .non H', rt := Q } (L2.start N vs) H) : FnOk P w K mg base (L2N.CX P w) (k + 1) f fd ps sp := by
  obtain ⟨oc, od, kV, doc, pm, an, cdv, ct, osl, rfl, lk, hcd⟩ := F.ex
  exact fn_of lk hcd S len fun A outer s H vs Q E hr hsp => hbody cdv A outer s H vs Q E hr hsp
theorem passNN : Passes (L2N.CX X.prog X.w) X E0 := fun _ _ _ _ _ _ _ h => by
  obtain ⟨_, _, _, _, _, _, _, _, _, _, _, _, z⟩ := h
  exact z.elim
theorem passNNAt : ∀ σ, PassesAt (L2N.CX X.prog X.w) X σ ((fun _ => E0 : L2.St → XK) σ) := fun σ pins H s e s' I c => passNN pins σ H s e s' I c
theorem passAtN {W : WX} (tk : L2N.Takes X W) (σ : L2.St) : PassesAt (L2N.CX X.prog X.w) X σ (WE W σ) := fun _ _ _ e s' I c => tk e s' (L2N.XE.of_call I (fun _ _ _ h => h) c)
theorem takes0N : L2N.Takes X (fun _ _ _ _ => False) := fun _ _ ⟨_, _, _, _, _, _, _, _, _, _, _, _, _, _, _, _, z⟩ => z.elim
theorem pmk_oexN {CX : CXT} {x : Str} {C fI : Addr} {k : Nat} {fd : FuncData} {ps : List Str} {sp : Sp} {e : Expr} {es : List Expr} {ta : TA} {p pos : Pos} {ds : List Value} {dvs : List V} (T : OexC X.K C) (iC : PySem.W.findIn X.K (.ref C) "__init__" = some (some (.ref fI))) (tI : PySem.W.typeIn X.K (.ref fI) = some (.type "function"))
    (F1 : FnOk X.prog X.w X.K X.mg X.base CX k fI fd ps sp) (hr : Room (k + 1) X.A) (hb : Binds X.K fd ps ds) (hd : Vals dvs ds) (hx : Passes CX X (fun _ _ _ => False)) (hg : Gl X x) (hm : X.mg x = some (.ref C)) (ha : PA X (e :: es) ta)
    (hdb : (x == ("__debug__" : Str)) = false := by decide) (he : starEach (e :: es) X.env = (false, eval e X.env) :: starEach es X.env := by rfl) (hpl : (backTo pos (starEach es X.env)).any (·.1) = false := by rfl) :
    L2N.PMk X (.Call (.Name x p) (e :: es) [] pos) (tMkO C sp dvs ta) := by
  intro pins s σ H Q I h
  obtain ⟨nm, q, N, bs, bm, sn, sub, ab, col, dd, k0, k1, k2, k3, k5, hC, hbm⟩ := T.cls
  refine wpAny_Call_Name_kw (ld_glob I hg hm ?_ hdb)
  refine PySem.W.callWith_K (h₀ := X.base) I.ok.mod.kin T.kC (thn (ha.run pos pins s σ H _ I h) fun us s1 ⟨vs, H1, I1, r1, hz, q1⟩ => ⟨I1.kIn, ?_⟩) he hpl
  show wpAny _ _ (call (.ref C) us) _ _ _
  obtain ⟨hp, g, dr, tk, os⟩ := s1
  have hsz : hp.objs.size ≤ hp.objs.size + 1 := Nat.le_succ _
  have hn : H1 (hp.objs.size + 1) = none := I1.hok.fresh hsz
  have hq := q1 (hp.objs.size + 1) hn
  have kk : ∀ b o, hp.get? b = some o → ((hp.push (PySem.W.kdv_tup us)).push (PySem.HandSPX.excO C hp.objs.size)).get? b = some o := fun b o e => Heap.get?_push_of_some _ (Heap.get?_push_of_some _ e)
  have hget : ((hp.push (PySem.W.kdv_tup us)).push (PySem.HandSPX.excO C hp.objs.size)).get? (hp.objs.size + 1) = some (PySem.HandSPX.excO C hp.objs.size) := by heap_get
  have I2 : Inv X pins σ (upd H1 (hp.objs.size + 1) (exo (hp.objs.size + 1) C none)) ⟨(hp.push (PySem.W.kdv_tup us)).push (PySem.HandSPX.excO C hp.objs.size), g, dr, tk, os⟩ :=
    I1.laid (t' := tk) (a := hp.objs.size + 1) (o := exo (hp.objs.size + 1) C none) (h' := (hp.push (PySem.W.kdv_tup us)).push (PySem.HandSPX.excO C hp.objs.size)) kk hsz (exo_ok hget)
  have r2 : Vals (V.ref (hp.objs.size + 1) :: (vs ++ dvs)) (Value.ref (hp.objs.size + 1) :: (us ++ ds)) := .cons rfl (r1.append hd)
  have hl : (Value.ref (hp.objs.size + 1) :: us ++ ds).length = ps.length := by
    have e := r2.length
    rw [F1.len _ _ _ _ hq] at e
    exact e.symm
  have hus : us.length ≤ sizeLine := by
    rw [← Paired.length r1, sizeLine_eq]
    omega
  refine wpAny_call (PySem.HandSPX.call_own F.excBase_ValueError (fun Y => PySem.HandSPX.refsVE_contains Y bm hbm) (I1.kIn _ _ hC) (PySem.W.looks_findIn I1.kIn iC) (fun self => PySem.W.bind_fn I1.kIn self tI) hus
    (codeAny_mono (F1.run _ X.stack _ _ ⟨Value.ref (hp.objs.size + 1) :: us, []⟩ (Value.ref (hp.objs.size + 1) :: (us ++ ds)) _ _ (fun _ _ _ => False) (hr.make C us []) (I2.env0.make C us []) (hb _ (Value.ref (hp.objs.size + 1) :: us) I2.kIn hl) r2 hq) fun r s' hq' => ?_))
  cases r with
  | error er => exact hx pins σ _ _ er s' I2 hq'
  | ok fl =>
    cases fl with
    | ret u =>
      obtain ⟨v, H2, os2, bare2, un2, hok2, rv, ev, d, fs, ea, ed, hd1, q2⟩ := hq'
      subst ev
      obtain ⟨h2, g2, d2, t2, os'⟩ := s'
      obtain ⟨t0, G, J, kG, ge, hoe, na⟩ := mk_end0 (d2 := d2) (t2 := t2) I1 hsz kk un2 hok2 os2 bare2 ea ed hd1
      exact ⟨rv, ⟨_, _, _, ⟨G, g2, d2, t2, os'⟩, _, .ref C, some d, rfl, J, kG, ge, hoe, ⟨rfl, rfl, fun vs e => by cases e; rfl⟩, rfl, rfl, na, rfl, bare2, raises_own T.exC T.tyC, q2⟩⟩
    | next => exact False.elim hq'
    | brk => exact False.elim hq'
    | cont => exact False.elim hq'
end
end Z
set_option Elab.async false
set_option linter.all false
set_option autoImplicit false
/-! colourings of a graph, recoloured place by place -/
namespace Gr
structure Prp (E : List (Nat × Nat)) (n : Nat) (c : Int) (s : List Int) : Prop where
  len : s.length = n
  rng : ∀ v, v ∈ s → 0 ≤ v ∧ v < c
  pr : ∀ e, e ∈ E → s.getD e.1 0 ≠ s.getD e.2 0
theorem Prp.nb {E : List (Nat × Nat)} {n : Nat} {c : Int} {s : List Int} (h : Prp E n c s) {k o : Nat} (hN : Nb E k o) : s.getD k 0 ≠ s.getD o 0 := hN.elim (fun z => h.pr _ z) fun z => Ne.symm (h.pr _ z)
theorem getD_set {s : List Int} {i j : Nat} {v : Int} (h : i < s.length) : (s.set i v).getD j 0 = if j = i then v else s.getD j 0 := by
  rw [List.getD_eq_getElem?_getD, List.getD_eq_getElem?_getD, List.getElem?_set]
  by_cases z : i = j
  · subst z
    rw [if_pos rfl, if_pos h, if_pos rfl]
    rfl
  · rw [if_neg z, if_neg (Ne.symm z)]
/-- one place takes a colour that no place beside it has -/
theorem Prp.put {E : List (Nat × Nat)} {n : Nat} {c : Int} {s : List Int} (hE : Ed n E) (h : Prp E n c s) {o : Nat} {v : Int} (ho : o < n) (hv : 0 ≤ v ∧ v < c) (hf : ∀ x, Nb E o x → s.getD x 0 ≠ v) : Prp E n c (s.set o v) := by
  have hl : o < s.length := by rw [h.len]; exact ho
  refine ⟨by rw [List.length_set]; exact h.len, fun w hw => ?_, fun e he => ?_⟩
  · rcases List.mem_or_eq_of_mem_set hw with z | z
    · exact h.rng w z
    · rw [z]; exact hv
  · have lt := (hE.lt e he).1
    rw [getD_set hl, getD_set hl]
    by_cases h1 : e.1 = o
    · rw [if_pos h1, if_neg (by omega)]
      exact Ne.symm (hf e.2 (by rw [← h1]; exact .inl he))
    · rw [if_neg h1]
      by_cases h2 : e.2 = o
      · rw [if_pos h2]
        exact hf e.1 (by rw [← h2]; exact .inr he)
      · rw [if_neg h2]
        exact h.pr e he
/-- unlike at one place only -/
def Apart (n : Nat) (s t : List Int) : Prop := ∃ k, k < n ∧ s.getD k 0 ≠ t.getD k 0 ∧ ∀ j, j ≠ k → s.getD j 0 = t.getD j 0
theorem apart_set {n : Nat} {s : List Int} {o : Nat} {v : Int} (hl : s.length = n) (ho : o < n) (hv : s.getD o 0 ≠ v) : Apart n s (s.set o v) := by
  refine ⟨o, ho, ?_, fun j hj => ?_⟩
  · rw [getD_set (by omega), if_pos rfl]; exact hv
  · rw [getD_set (by omega), if_neg hj]
structure Way (E : List (Nat × Nat)) (n : Nat) (c : Int) (start : List Int) (ss : List (List Int)) : Prop where
  hd : ss.head? = some start
  all : ∀ s, s ∈ ss → Prp E n c s
  stp : ∀ (i : Nat) s t, ss[i]? = some s → ss[i + 1]? = some t → Apart n s t
theorem Way.ne {E : List (Nat × Nat)} {n : Nat} {c : Int} {start : List Int} {ss : List (List Int)} (h : Way E n c start ss) : ss ≠ [] := fun z => by have := h.hd; rw [z] at this; cases this
theorem Way.start {E : List (Nat × Nat)} {n : Nat} {c : Int} {start : List Int} (h : Prp E n c start) : Way E n c start [start] := ⟨rfl, fun s hs => by rw [List.mem_singleton.mp hs]; exact h, fun i s t _ ht => by
  have := (List.getElem?_eq_some_iff.mp ht).1
  simp at this⟩
theorem Way.snoc {E : List (Nat × Nat)} {n : Nat} {c : Int} {start cur nx : List Int} {ss : List (List Int)} (h : Way E n c start ss) (hc : ss.getLast? = some cur) (hp : Prp E n c nx) (ha : Apart n cur nx) : Way E n c start (ss ++ [nx]) := by
  refine ⟨?_, fun s hs => ?_, fun i s t hs ht => ?_⟩
  · rw [List.head?_append, h.hd]
    rfl
  · rcases List.mem_append.mp hs with hs | hs
    · exact h.all s hs
    · rw [List.mem_singleton.mp hs]; exact hp
  · by_cases z : i + 1 < ss.length
    · rw [List.getElem?_append_left (by omega)] at hs
      rw [List.getElem?_append_left z] at ht
      exact h.stp i s t hs ht
    · have h2 := (List.getElem?_eq_some_iff.mp ht).1
      rw [List.length_append, List.length_singleton] at h2
      have hi : i + 1 = ss.length := by omega
      rw [List.getElem?_append_left (by omega)] at hs
      rw [List.getElem?_append_right (by omega), hi, Nat.sub_self] at ht
      cases ht
      rw [List.getLast?_eq_getElem?, show ss.length - 1 = i by omega, hs] at hc
      cases hc
      exact ha
/-- how many ties start at a place below m -/
def below (E : List (Nat × Nat)) (m : Nat) : Nat := E.countP fun e => decide (e.1 < m)
def ups (E : List (Nat × Nat)) (p : Nat) (l : List Nat) : Nat := l.countP fun o => decide (p < o)
theorem ups_le {p : Nat} : ∀ {E : List (Nat × Nat)}, (∀ e, e ∈ E → e.1 < e.2) → below E p + ups E p (nb E p) ≤ below E (p + 1)
  | [], _ => Nat.le_refl _
  | (a, b) :: E, h => by
    have ih := ups_le (p := p) (E := E) fun e he => h e (List.mem_cons_of_mem _ he)
    have lt : a < b := h (a, b) (List.mem_cons_self ..)
    have e : nb ((a, b) :: E) p = ((if a = p then [b] else []) ++ (if b = p then [a] else [])) ++ nb E p := by unfold nb; rw [List.flatMap_cons]
    unfold below ups at *
    rw [e, List.countP_append, List.countP_append, List.countP_cons, List.countP_cons]
    have h1 : (if a = p then [b] else []).countP (fun o => decide (p < o)) = if a = p then 1 else 0 := by
      split
      · rename_i z
        have : p < b := by omega
        simp [List.countP_cons, this]
      · rfl
    have h2 : (if b = p then [a] else []).countP (fun o => decide (p < o)) = 0 := by
      split
      · rename_i z
        have : ¬ p < a := by omega
        simp [List.countP_cons, this]
      · rfl
    rw [h1, h2]
    by_cases z : a = p
    · have c1 : decide (a < p) = false := decide_eq_false (by omega)
      have c2 : decide (a < p + 1) = true := decide_eq_true (by omega)
      show (_ + if decide (a < p) = true then 1 else 0) + _ ≤ _ + if decide (a < p + 1) = true then 1 else 0
      rw [c1, c2, if_pos z]
      simp
      omega
    · have c1 : decide (a < p) = decide (a < p + 1) := decide_eq_decide.mpr (by omega)
      show (_ + if decide (a < p) = true then 1 else 0) + _ ≤ _ + if decide (a < p + 1) = true then 1 else 0
      rw [c1, if_neg z]
      omega
theorem below_le {E : List (Nat × Nat)} {m : Nat} : below E m ≤ E.length := List.countP_le_length
/-- p places are done -/
structure Led (E : List (Nat × Nat)) (n : Nat) (c : Int) (start goal : List Int) (p : Nat) (ss : List (List Int)) : Prop where
  way : Way E n c start ss
  fin : ∀ cur, ss.getLast? = some cur → ∀ k, k < p → cur.getD k 0 = goal.getD k 0
  len : ss.length ≤ 1 + p + below E p
/-- .. and some places beside p give way -/
structure Giv (E : List (Nat × Nat)) (n : Nat) (c : Int) (start goal : List Int) (p : Nat) (ss : List (List Int)) (part : List Nat) : Prop where
  way : Way E n c start ss
  fin : ∀ cur, ss.getLast? = some cur → (∀ k, k < p → cur.getD k 0 = goal.getD k 0) ∧ cur.getD p 0 ≠ goal.getD p 0 ∧ ∀ o, o ∈ part → cur.getD o 0 ≠ goal.getD p 0
  len : ss.length ≤ 1 + p + below E p + ups E p part
section
variable {E : List (Nat × Nat)} {n p o : Nat} {c v : Int} {start goal cur : List Int} {ss : List (List Int)} {part : List Nat}
theorem last_snoc' {α : Type} {l : List α} {x : α} : (l ++ [x]).getLast? = some x := by rw [List.getLast?_append]; rfl
theorem Led.begin (h : Prp E n c start) : Led E n c start goal 0 [start] := ⟨.start h, fun _ _ k hk => by omega, by simp⟩
theorem Led.same (L : Led E n c start goal p ss) (hc : ss.getLast? = some cur) (h : cur.getD p 0 = goal.getD p 0) : Led E n c start goal (p + 1) ss := ⟨L.way, fun cur' hc' k hk => by
  rw [hc] at hc'
  cases hc'
  by_cases z : k = p
  · rw [z]; exact h
  · exact L.fin cur hc k (by omega), by
  have := L.len
  have : below E p ≤ below E (p + 1) := List.countP_mono_left fun e _ h => decide_eq_true (by have := of_decide_eq_true h; omega)
  omega⟩
theorem Led.giv (L : Led E n c start goal p ss) (hc : ss.getLast? = some cur) (h : cur.getD p 0 ≠ goal.getD p 0) : Giv E n c start goal p ss [] := ⟨L.way, fun cur' hc' => by
  rw [hc] at hc'
  cases hc'
  exact ⟨L.fin cur hc, h, fun o ho => by cases ho⟩, L.len⟩
theorem Giv.skip (G : Giv E n c start goal p ss part) (hc : ss.getLast? = some cur) (h : cur.getD o 0 ≠ goal.getD p 0) : Giv E n c start goal p ss (part ++ [o]) := ⟨G.way, fun cur' hc' => by
  obtain ⟨a, b, d⟩ := G.fin cur' hc'
  rw [hc] at hc'
  cases hc'
  exact ⟨a, b, fun x hx => (List.mem_append.mp hx).elim (d x) fun hx => by rw [List.mem_singleton.mp hx]; exact h⟩, by
  have := G.len
  unfold ups at *
  rw [List.countP_append]
  omega⟩
theorem Giv.give (hE : Ed n E) (hg : Prp E n c goal) (G : Giv E n c start goal p ss part) (hc : ss.getLast? = some cur) (hN : Nb E p o) (h : cur.getD o 0 = goal.getD p 0) (hv : 0 ≤ v ∧ v < c) (hne : v ≠ goal.getD p 0) (hf : ∀ x, Nb E o x → cur.getD x 0 ≠ v) : Giv E n c start goal p (ss ++ [cur.set o v]) (part ++ [o]) := by
  obtain ⟨a, b, d⟩ := G.fin cur hc
  have hm := List.mem_of_getLast? hc
  have P := G.way.all cur hm
  have hb : p < n ∧ o < n ∧ p ≠ o := by
    rcases hN with z | z <;> have := hE.lt _ z <;> simp at this <;> omega
  have hop : p < o := by
    by_cases z : o < p
    · exfalso
      have := a o z
      rw [h] at this
      exact hg.nb hN this
    · omega
  have hol : o < cur.length := by rw [P.len]; exact hb.2.1
  refine ⟨G.way.snoc hc (P.put hE hb.2.1 hv hf) (apart_set P.len hb.2.1 (by rw [h]; exact Ne.symm hne)), fun cur' hc' => ?_, ?_⟩
  · rw [last_snoc'] at hc'
    cases hc'
    refine ⟨fun k hk => ?_, ?_, fun x hx => ?_⟩
    · rw [getD_set hol, if_neg (by omega)]; exact a k hk
    · rw [getD_set hol, if_neg (by omega)]; exact b
    · rw [getD_set hol]
      split
      · exact hne
      · rename_i z
        rcases List.mem_append.mp hx with hx | hx
        · exact d x hx
        · exact absurd (List.mem_singleton.mp hx) z
  · have := G.len
    unfold ups at *
    rw [List.countP_append, List.length_append, List.length_singleton]
    have : [o].countP (fun o => decide (p < o)) = 1 := by simp [List.countP_cons, hop]
    rw [this]
    omega
theorem Giv.end_ (hE : Ed n E) (hg : Prp E n c goal) (hp : p < n) (G : Giv E n c start goal p ss part) (hc : ss.getLast? = some cur) (hpart : part = nb E p) : Led E n c start goal (p + 1) (ss ++ [cur.set p (goal.getD p 0)]) := by
  obtain ⟨a, b, d⟩ := G.fin cur hc
  have P := G.way.all cur (List.mem_of_getLast? hc)
  have hpl : p < cur.length := by rw [P.len]; exact hp
  have hv : 0 ≤ goal.getD p 0 ∧ goal.getD p 0 < c := hg.rng _ (by
    rw [List.getD_eq_getElem?_getD, List.getElem?_eq_getElem (by rw [hg.len]; exact hp)]
    exact List.getElem_mem _)
  refine ⟨G.way.snoc hc (P.put hE hp hv fun x hx => d x (by rw [hpart]; exact mem_nb.mpr hx)) (apart_set P.len hp b), fun cur' hc' k hk => ?_, ?_⟩
  · rw [last_snoc'] at hc'
    cases hc'
    rw [getD_set hpl]
    split
    · rename_i z; rw [z]
    · exact a k (by omega)
  · have h1 := G.len
    have h2 := ups_le (p := p) (E := E) fun e he => (hE.lt e he).1
    rw [hpart] at h1
    rw [List.length_append, List.length_singleton]
    omega
theorem Led.done (hg : Prp E n c goal) (L : Led E n c start goal n ss) (hc : ss.getLast? = some cur) : cur = goal := by
  have P := L.way.all cur (List.mem_of_getLast? hc)
  apply List.ext_getElem?
  intro i
  by_cases hi : i < n
  · have := L.fin cur hc i hi
    rw [List.getD_eq_getElem?_getD, List.getD_eq_getElem?_getD, List.getElem?_eq_getElem (by rw [P.len]; exact hi), List.getElem?_eq_getElem (by rw [hg.len]; exact hi)] at this
    rw [List.getElem?_eq_getElem (by rw [P.len]; exact hi), List.getElem?_eq_getElem (by rw [hg.len]; exact hi)]
    exact congrArg some this
  · rw [List.getElem?_eq_none (by rw [P.len]; omega), List.getElem?_eq_none (by rw [hg.len]; omega)]
/-- a colour that is left -/
theorem spare {c : Nat} {b : Int} {l : List Int} (h : l.length + 2 ≤ c) : ∃ x ∈ ((List.range c).filter fun (k : Nat) => decide ((k : Int) ≠ b) && decide ((k : Int) ∉ l)), True := by
  refine Classical.byContradiction fun hn => ?_
  have : ∀ k, k ∈ List.range c → (k : Int) = b ∨ (k : Int) ∈ l := fun k hk => Classical.byContradiction fun z => hn ⟨k, List.mem_filter.mpr ⟨hk, by
    simp only [not_or] at z
    simp [z.1, z.2]⟩, trivial⟩
  have hs := length_sub (l := (List.range c).map fun (k : Nat) => (k : Int)) (m := b :: l) (List.Pairwise.map _ (fun a b ne => by show (a : Int) ≠ b; omega) List.nodup_range) fun x hx => by
    obtain ⟨k, hk, rfl⟩ := List.mem_map.mp hx
    exact List.mem_cons.mpr (this k hk)
  rw [List.length_map, List.length_range, List.length_cons] at hs
  omega
end
/-! how many places are beside a place -/
def deg (E : List (Nat × Nat)) (k : Nat) : Nat := (nb E k).length
def mostD (n : Nat) (E : List (Nat × Nat)) : Nat := ((List.range n).map (deg E)).foldl max 0
theorem foldl_max : ∀ (l : List Nat) (m : Nat), m ≤ l.foldl max m ∧ (∀ x, x ∈ l → x ≤ l.foldl max m) ∧ (l.foldl max m = m ∨ l.foldl max m ∈ l)
  | [], m => ⟨Nat.le_refl _, fun x hx => (List.not_mem_nil hx).elim, Or.inl rfl⟩
  | y :: l, m => by
    obtain ⟨h1, h2, h3⟩ := foldl_max l (max m y)
    rw [List.foldl_cons]
    refine ⟨by omega, fun x hx => ?_, ?_⟩
    · rcases List.mem_cons.mp hx with rfl | hx
      · omega
      · exact h2 x hx
    · rcases h3 with h3 | h3
      · rw [h3]
        by_cases z : m ≤ y
        · exact .inr (by rw [Nat.max_eq_right z]; exact List.mem_cons_self ..)
        · exact .inl (by omega)
      · exact .inr (List.mem_cons_of_mem _ h3)
theorem most_ge {n k : Nat} {E : List (Nat × Nat)} (h : k < n) : deg E k ≤ mostD n E := (foldl_max _ 0).2.1 _ (List.mem_map.mpr ⟨k, List.mem_range.mpr h, rfl⟩)
theorem most_in {n : Nat} {E : List (Nat × Nat)} (h : 0 < n) : ∃ k, k < n ∧ deg E k = mostD n E := by
  rcases (foldl_max ((List.range n).map (deg E)) 0).2.2 with z | z
  · refine ⟨0, h, ?_⟩
    have := most_ge (E := E) h
    have : mostD n E = 0 := z
    omega
  · obtain ⟨k, hk, e⟩ := List.mem_map.mp z
    exact ⟨k, List.mem_range.mp hk, e⟩
theorem deg_count {k : Nat} : ∀ {E : List (Nat × Nat)}, (∀ e, e ∈ E → e.1 < e.2) → deg E k = E.countP fun e => decide (e.1 = k) || decide (e.2 = k)
  | [], _ => rfl
  | (a, b) :: E, h => by
    have ih := deg_count (k := k) (E := E) fun e he => h e (List.mem_cons_of_mem _ he)
    have lt : a < b := h (a, b) (List.mem_cons_self ..)
    have e : nb ((a, b) :: E) k = ((if a = k then [b] else []) ++ (if b = k then [a] else [])) ++ nb E k := by unfold nb; rw [List.flatMap_cons]
    unfold deg at *
    rw [e, List.length_append, List.length_append, List.countP_cons, ih]
    by_cases h1 : a = k
    · have h2 : b ≠ k := by omega
      simp [h1, h2]
      omega
    · by_cases h2 : b = k <;> simp [h1, h2] <;> omega
theorem deg_perm {k : Nat} {E E' : List (Nat × Nat)} (h : ∀ e, e ∈ E → e.1 < e.2) (p : E.Perm E') : deg E k = deg E' k := by
  rw [deg_count h, deg_count fun e he => h e (p.mem_iff.mpr he)]
  exact p.countP_eq _
theorem Prp.perm {E E' : List (Nat × Nat)} {n : Nat} {c : Int} {s : List Int} (p : E.Perm E') (h : Prp E n c s) : Prp E' n c s := ⟨h.len, h.rng, fun e he => h.pr e (p.mem_iff.mpr he)⟩
theorem Way.perm {E E' : List (Nat × Nat)} {n : Nat} {c : Int} {s : List Int} {ss : List (List Int)} (p : E.Perm E') (h : Way E n c s ss) : Way E' n c s ss := ⟨h.hd, fun t ht => (h.all t ht).perm p, h.stp⟩
theorem below_perm {E E' : List (Nat × Nat)} {m : Nat} (p : E.Perm E') : below E m = below E' m := p.countP_eq _
theorem Led.perm {E E' : List (Nat × Nat)} {n k : Nat} {c : Int} {s g : List Int} {ss : List (List Int)} (p : E.Perm E') (h : Led E n c s g k ss) : Led E' n c s g k ss := ⟨h.way.perm p, h.fin, by rw [← below_perm p]; exact h.len⟩
theorem mostD_perm {n : Nat} {E E' : List (Nat × Nat)} (h : ∀ e, e ∈ E → e.1 < e.2) (p : E.Perm E') : mostD n E = mostD n E' := by
  unfold mostD
  congr 1
  exact List.map_congr_left fun k _ => deg_perm h p
theorem most_le {n m : Nat} {E : List (Nat × Nat)} (h : ∀ k, k < n → deg E k ≤ m) : mostD n E ≤ m := by
  rcases Nat.eq_zero_or_pos n with z | z
  · subst z; exact Nat.zero_le _
  · obtain ⟨k, hk, e⟩ := most_in (E := E) z
    rw [← e]
    exact h k hk
theorem lows_le {E : List (Nat × Nat)} {p : Nat} : ((List.range p).filter fun o => decide ((o, p) ∈ E)).length ≤ deg E p :=
  length_sub (List.Pairwise.filter _ List.nodup_range) fun x hx => mem_nb.mpr (.inr (of_decide_eq_true (List.mem_filter.mp hx).2))
theorem one_in {α : Type} {k : α} : ∀ {l : List α}, l.Nodup → k ∈ l → (∀ x, x ∈ l → x = k) → l.length = 1
  | [], _, h, _ => (List.not_mem_nil h).elim
  | [x], _, _, _ => rfl
  | x :: y :: l, nd, _, h => by
    have h1 := h x (List.mem_cons_self ..)
    have h2 := h y (List.mem_cons_of_mem _ (List.mem_cons_self ..))
    rw [List.nodup_cons] at nd
    exact (nd.1 (by rw [h1, ← h2]; exact List.mem_cons_self ..)).elim
theorem Apart.one {n : Nat} {s t : List Int} (h : Apart n s t) : ((List.range n).filter fun j => !decide (s.getD j 0 = t.getD j 0)).length = 1 := by
  obtain ⟨k, hk, hne, ho⟩ := h
  refine one_in (k := k) (List.Pairwise.filter _ List.nodup_range) (List.mem_filter.mpr ⟨List.mem_range.mpr hk, by rw [decide_eq_false hne]; rfl⟩) fun x hx => ?_
  have := (List.mem_filter.mp hx).2
  exact Classical.byContradiction fun z => by
    rw [ho x z] at this
    simp at this
/-- a colouring of the first places -/
structure Part (E : List (Nat × Nat)) (c : Int) (i : Nat) (s : List Int) : Prop where
  len : s.length = i
  rng : ∀ v, v ∈ s → 0 ≤ v ∧ v < c
  pr : ∀ e, e ∈ E → e.2 < i → s.getD e.1 0 ≠ s.getD e.2 0
theorem Part.nil {E : List (Nat × Nat)} {c : Int} : Part E c 0 [] := ⟨rfl, fun v hv => (List.not_mem_nil hv).elim, fun e _ h => absurd h (Nat.not_lt_zero _)⟩
theorem Part.snoc {E : List (Nat × Nat)} {c v : Int} {i : Nat} {s : List Int} (hE : ∀ e, e ∈ E → e.1 < e.2) (h : Part E c i s) (hv : 0 ≤ v ∧ v < c) (hf : ∀ o, (o, i) ∈ E → s.getD o 0 ≠ v) : Part E c (i + 1) (s ++ [v]) := by
  have hl := h.len
  have lo : ∀ j, j < i → (s ++ [v]).getD j 0 = s.getD j 0 := fun j hj => by
    rw [List.getD_eq_getElem?_getD, List.getElem?_append_left (by omega), ← List.getD_eq_getElem?_getD]
  have hi : (s ++ [v]).getD i 0 = v := by
    rw [List.getD_eq_getElem?_getD, List.getElem?_append_right (by omega), hl, Nat.sub_self]
    rfl
  refine ⟨by rw [List.length_append, hl]; rfl, fun u hu => ?_, fun e he h2 => ?_⟩
  · rcases List.mem_append.mp hu with z | z
    · exact h.rng u z
    · rw [List.mem_singleton.mp z]; exact hv
  · have lt := hE e he
    rw [lo e.1 (by omega)]
    by_cases z : e.2 = i
    · rw [z, hi]
      exact hf e.1 (by rw [← z]; exact he)
    · rw [lo e.2 (by omega)]
      exact h.pr e he (by omega)
theorem Part.prp {E : List (Nat × Nat)} {c : Int} {n : Nat} {s : List Int} (hE : Ed n E) (h : Part E c n s) : Prp E n c s := ⟨h.len, h.rng, fun e he => h.pr e he (hE.lt e he).2⟩
end Gr
set_option Elab.async false
set_option linter.all false
set_option maxRecDepth 100000
set_option maxHeartbeats 4000000
set_option autoImplicit false
namespace Y
open PySem L2 Z
def top (i : Nat) : Stmt := PySem.Challenge.pw_everystepstands_k92_many_colours_within.main.body.getD i (.Pass ⟨0, 0, 0, 0⟩)
abbrev s_wall : Stmt := top 0
abbrev s_with_value : Stmt := top 2
abbrev s_BadWebw_initw : Stmt := inClass (top 5) 0
abbrev s_BadWorldw_initw : Stmt := inClass (top 6) 0
abbrev s_NotARoww_initw : Stmt := inClass (top 7) 0
abbrev s_NotAnAnswerw_initw : Stmt := inClass (top 8) 0
abbrev s_RowsApartw_initw : Stmt := inClass (top 9) 0
abbrev s_TooFeww_initw : Stmt := inClass (top 10) 0
abbrev s_Worldw_initw : Stmt := inClass (top 12) 0
abbrev s_World_is_answer : Stmt := inClass (top 12) 1
abbrev s_World_is_change : Stmt := inClass (top 12) 2
abbrev s_World_next_answers : Stmt := inClass (top 12) 3
abbrev s_World_blocked : Stmt := inClass (top 12) 4
abbrev s_check_answer : Stmt := top 13
abbrev s_Coloursw_initw : Stmt := inClass (top 15) 2
abbrev s_Colours_is_answer : Stmt := inClass (top 15) 3
abbrev s_Colours_is_change : Stmt := inClass (top 15) 4
abbrev s_Colours_next_answers : Stmt := inClass (top 15) 5
abbrev s_Colours_blocked : Stmt := inClass (top 15) 6
abbrev s_Roww_initw : Stmt := inClass (top 17) 0
abbrev s_Row_start : Stmt := inClass (top 17) 1
abbrev s_Row_goal : Stmt := inClass (top 17) 2
abbrev s_Row_steps : Stmt := inClass (top 17) 3
abbrev s_Row_back : Stmt := inClass (top 17) 4
abbrev s_Roww_addw : Stmt := inClass (top 17) 5
abbrev s_Roww_iterw : Stmt := inClass (top 17) 6
abbrev s_Webw_initw : Stmt := inClass (top 21) 0
abbrev s_Web_beside : Stmt := inClass (top 21) 1
abbrev s_Web_tied : Stmt := inClass (top 21) 2
abbrev s_Web_pieces : Stmt := inClass (top 21) 3
abbrev s_Web_pieces_without : Stmt := inClass (top 21) 4
abbrev s_Web_is_walk : Stmt := inClass (top 21) 5
abbrev s_Web_find_ring : Stmt := inClass (top 21) 6
abbrev s_most_beside : Stmt := top 23
abbrev s_spare_colour : Stmt := top 24
abbrev s_lead_many : Stmt := top 25
abbrev s_frozen_pairs : Stmt := top 26
abbrev s_law_cell : Stmt := top 28
abbrev s_law_draw : Stmt := top 29
abbrev s_law_int : Stmt := top 30
abbrev s_law_tuple : Stmt := top 31
abbrev s_law_beside : Stmt := top 32
abbrev s_law_ties : Stmt := top 33
abbrev s_law_colouring : Stmt := top 34
abbrev s_law_put : Stmt := top 35
abbrev s_law_spoilt : Stmt := top 36
abbrev s_law_coloured : Stmt := top 37
abbrev s_law_row_stands : Stmt := top 38
abbrev s_law_refused : Stmt := top 39
abbrev s_law_pairs_refused : Stmt := top 40
abbrev s_law_pairs_stand : Stmt := top 41
abbrev s_law : Stmt := top 42
abbrev N_wall : List Str := ["k"]
theorem sc_wall : FnScope N_wall ["k"] (defScope s_wall) := ⟨rfl, rfl, rfl, by decide +kernel, rfl, by decide +kernel, by decide +kernel⟩
abbrev N_with_value : List Str := ["setting", "position", "value"]
theorem sc_with_value : FnScope N_with_value ["setting", "position", "value"] (defScope s_with_value) := ⟨rfl, rfl, rfl, by decide +kernel, rfl, by decide +kernel, by decide +kernel⟩
abbrev N_BadWebw_initw : List Str := ["self", "index"]
theorem sc_BadWebw_initw : FnScopeS N_BadWebw_initw ["self", "index"] (defScope s_BadWebw_initw) := ⟨rfl, rfl, rfl, by decide +kernel, rfl, by decide +kernel, by decide +kernel, by decide +kernel, rfl, rfl⟩
abbrev N_BadWorldw_initw : List Str := ["self", "index"]
theorem sc_BadWorldw_initw : FnScopeS N_BadWorldw_initw ["self", "index"] (defScope s_BadWorldw_initw) := ⟨rfl, rfl, rfl, by decide +kernel, rfl, by decide +kernel, by decide +kernel, by decide +kernel, rfl, rfl⟩
abbrev N_NotARoww_initw : List Str := ["self", "index"]
theorem sc_NotARoww_initw : FnScopeS N_NotARoww_initw ["self", "index"] (defScope s_NotARoww_initw) := ⟨rfl, rfl, rfl, by decide +kernel, rfl, by decide +kernel, by decide +kernel, by decide +kernel, rfl, rfl⟩
abbrev N_NotAnAnswerw_initw : List Str := ["self", "setting"]
theorem sc_NotAnAnswerw_initw : FnScopeS N_NotAnAnswerw_initw ["self", "setting"] (defScope s_NotAnAnswerw_initw) := ⟨rfl, rfl, rfl, by decide +kernel, rfl, by decide +kernel, by decide +kernel, by decide +kernel, rfl, rfl⟩
abbrev N_RowsApartw_initw : List Str := ["self", "first", "second"]
theorem sc_RowsApartw_initw : FnScopeS N_RowsApartw_initw ["self", "first", "second"] (defScope s_RowsApartw_initw) := ⟨rfl, rfl, rfl, by decide +kernel, rfl, by decide +kernel, by decide +kernel, by decide +kernel, rfl, rfl⟩
abbrev N_TooFeww_initw : List Str := ["self", "needed"]
theorem sc_TooFeww_initw : FnScopeS N_TooFeww_initw ["self", "needed"] (defScope s_TooFeww_initw) := ⟨rfl, rfl, rfl, by decide +kernel, rfl, by decide +kernel, by decide +kernel, by decide +kernel, rfl, rfl⟩
abbrev N_Worldw_initw : List Str := ["self", "size"]
theorem sc_Worldw_initw : FnScope N_Worldw_initw ["self", "size"] (defScope s_Worldw_initw) := ⟨rfl, rfl, rfl, by decide +kernel, rfl, by decide +kernel, by decide +kernel⟩
abbrev N_World_is_answer : List Str := ["self", "setting"]
theorem sc_World_is_answer : FnScope N_World_is_answer ["self", "setting"] (defScope s_World_is_answer) := ⟨rfl, rfl, rfl, by decide +kernel, rfl, by decide +kernel, by decide +kernel⟩
abbrev N_World_is_change : List Str := ["self", "first", "second"]
theorem sc_World_is_change : FnScope N_World_is_change ["self", "first", "second"] (defScope s_World_is_change) := ⟨rfl, rfl, rfl, by decide +kernel, rfl, by decide +kernel, by decide +kernel⟩
abbrev N_World_next_answers : List Str := ["self", "setting"]
theorem sc_World_next_answers : FnScope N_World_next_answers ["self", "setting"] (defScope s_World_next_answers) := ⟨rfl, rfl, rfl, by decide +kernel, rfl, by decide +kernel, by decide +kernel⟩
abbrev N_World_blocked : List Str := ["self", "setting", "parts", "part"]
theorem sc_World_blocked : FnScope N_World_blocked ["self", "setting", "parts", "part"] (defScope s_World_blocked) := ⟨rfl, rfl, rfl, by decide +kernel, rfl, by decide +kernel, by decide +kernel⟩
abbrev N_check_answer : List Str := ["world", "setting"]
theorem sc_check_answer : FnScope N_check_answer ["world", "setting"] (defScope s_check_answer) := ⟨rfl, rfl, rfl, by decide +kernel, rfl, by decide +kernel, by decide +kernel⟩
abbrev N_Coloursw_initw : List Str := ["self", "web", "colours"]
theorem sc_Coloursw_initw : FnScopeS N_Coloursw_initw ["self", "web", "colours"] (defScope s_Coloursw_initw) := ⟨rfl, rfl, rfl, by decide +kernel, rfl, by decide +kernel, by decide +kernel, by decide +kernel, rfl, rfl⟩
abbrev N_Colours_is_answer : List Str := ["self", "setting", "low", "high", "value"]
theorem sc_Colours_is_answer : FnScope N_Colours_is_answer ["self", "setting"] (defScope s_Colours_is_answer) := ⟨rfl, rfl, rfl, by decide +kernel, rfl, by decide +kernel, by decide +kernel⟩
abbrev N_Colours_is_change : List Str := ["self", "first", "second"]
theorem sc_Colours_is_change : FnScope N_Colours_is_change ["self", "first", "second"] (defScope s_Colours_is_change) := ⟨rfl, rfl, rfl, by decide +kernel, rfl, by decide +kernel, by decide +kernel⟩
abbrev N_Colours_next_answers : List Str := ["self", "setting", "found", "place", "barred", "colour", "other"]
theorem sc_Colours_next_answers : FnScope N_Colours_next_answers ["self", "setting"] (defScope s_Colours_next_answers) := ⟨rfl, rfl, rfl, by decide +kernel, rfl, by decide +kernel, by decide +kernel⟩
abbrev N_Colours_blocked : List Str := ["self", "setting", "parts", "part"]
theorem sc_Colours_blocked : FnScope N_Colours_blocked ["self", "setting", "parts", "part"] (defScope s_Colours_blocked) := ⟨rfl, rfl, rfl, by decide +kernel, rfl, by decide +kernel, by decide +kernel⟩
abbrev N_Roww_initw : List Str := ["self", "settings", "index", "setting"]
theorem sc_Roww_initw : FnScope N_Roww_initw ["self", "settings"] (defScope s_Roww_initw) := ⟨rfl, rfl, rfl, by decide +kernel, rfl, by decide +kernel, by decide +kernel⟩
abbrev N_Row_start : List Str := ["self"]
theorem sc_Row_start : FnScope N_Row_start ["self"] (defScope s_Row_start) := ⟨rfl, rfl, rfl, by decide +kernel, rfl, by decide +kernel, by decide +kernel⟩
abbrev N_Row_goal : List Str := ["self"]
theorem sc_Row_goal : FnScope N_Row_goal ["self"] (defScope s_Row_goal) := ⟨rfl, rfl, rfl, by decide +kernel, rfl, by decide +kernel, by decide +kernel⟩
abbrev N_Row_steps : List Str := ["self"]
theorem sc_Row_steps : FnScope N_Row_steps ["self"] (defScope s_Row_steps) := ⟨rfl, rfl, rfl, by decide +kernel, rfl, by decide +kernel, by decide +kernel⟩
abbrev N_Row_back : List Str := ["self"]
theorem sc_Row_back : FnScope N_Row_back ["self"] (defScope s_Row_back) := ⟨rfl, rfl, rfl, by decide +kernel, rfl, by decide +kernel, by decide +kernel⟩
abbrev N_Roww_addw : List Str := ["self", "other"]
theorem sc_Roww_addw : FnScope N_Roww_addw ["self", "other"] (defScope s_Roww_addw) := ⟨rfl, rfl, rfl, by decide +kernel, rfl, by decide +kernel, by decide +kernel⟩
abbrev N_Roww_iterw : List Str := ["self"]
theorem sc_Roww_iterw : FnScope N_Roww_iterw ["self"] (defScope s_Roww_iterw) := ⟨rfl, rfl, rfl, by decide +kernel, rfl, by decide +kernel, by decide +kernel⟩
abbrev N_Webw_initw : List Str := ["self", "places", "ties", "seen", "index", "one", "other", "low", "high", "_"]
theorem sc_Webw_initw : FnScope N_Webw_initw ["self", "places", "ties"] (defScope s_Webw_initw) := ⟨rfl, rfl, rfl, by decide +kernel, rfl, by decide +kernel, by decide +kernel⟩
abbrev N_Web_beside : List Str := ["self", "place"]
theorem sc_Web_beside : FnScope N_Web_beside ["self", "place"] (defScope s_Web_beside) := ⟨rfl, rfl, rfl, by decide +kernel, rfl, by decide +kernel, by decide +kernel⟩
abbrev N_Web_tied : List Str := ["self", "one", "other"]
theorem sc_Web_tied : FnScope N_Web_tied ["self", "one", "other"] (defScope s_Web_tied) := ⟨rfl, rfl, rfl, by decide +kernel, rfl, by decide +kernel, by decide +kernel⟩
abbrev N_Web_pieces : List Str := ["self"]
theorem sc_Web_pieces : FnScope N_Web_pieces ["self"] (defScope s_Web_pieces) := ⟨rfl, rfl, rfl, by decide +kernel, rfl, by decide +kernel, by decide +kernel⟩
abbrev N_Web_pieces_without : List Str := ["self", "places"]
theorem sc_Web_pieces_without : FnScope N_Web_pieces_without ["self", "places"] (defScope s_Web_pieces_without) := ⟨rfl, rfl, rfl, by decide +kernel, rfl, by decide +kernel, by decide +kernel⟩
abbrev N_Web_is_walk : List Str := ["self", "walk"]
theorem sc_Web_is_walk : FnScope N_Web_is_walk ["self", "walk"] (defScope s_Web_is_walk) := ⟨rfl, rfl, rfl, by decide +kernel, rfl, by decide +kernel, by decide +kernel⟩
abbrev N_Web_find_ring : List Str := ["self"]
theorem sc_Web_find_ring : FnScope N_Web_find_ring ["self"] (defScope s_Web_find_ring) := ⟨rfl, rfl, rfl, by decide +kernel, rfl, by decide +kernel, by decide +kernel⟩
abbrev N_most_beside : List Str := ["web", "near"]
theorem sc_most_beside : FnScope N_most_beside ["web"] (defScope s_most_beside) := ⟨rfl, rfl, rfl, by decide +kernel, rfl, by decide +kernel, by decide +kernel⟩
abbrev N_spare_colour : List Str := ["web", "colours", "setting", "place", "barred", "taken", "other", "colour"]
theorem sc_spare_colour : FnScope N_spare_colour ["web", "colours", "setting", "place", "barred"] (defScope s_spare_colour) := ⟨rfl, rfl, rfl, by decide +kernel, rfl, by decide +kernel, by decide +kernel⟩
abbrev N_lead_many : List Str := ["web", "colours", "start", "goal", "world", "needed", "settings", "place", "wanted", "other", "now"]
theorem sc_lead_many : FnScope N_lead_many ["web", "colours", "start", "goal"] (defScope s_lead_many) := ⟨rfl, rfl, rfl, by decide +kernel, rfl, by decide +kernel, by decide +kernel⟩
abbrev N_frozen_pairs : List Str := ["n", "ties", "low", "high", "place"]
theorem sc_frozen_pairs : FnScope N_frozen_pairs ["n"] (defScope s_frozen_pairs) := ⟨rfl, rfl, rfl, by decide +kernel, rfl, by decide +kernel, by decide +kernel⟩
abbrev N_law_cell : List Str := ["script", "k"]
theorem sc_law_cell : FnScope N_law_cell ["script", "k"] (defScope s_law_cell) := ⟨rfl, rfl, rfl, by decide +kernel, rfl, by decide +kernel, by decide +kernel⟩
abbrev N_law_draw : List Str := ["cell", "bases", "drawn", "rest", "base", "state"]
theorem sc_law_draw : FnScope N_law_draw ["cell", "bases"] (defScope s_law_draw) := ⟨rfl, rfl, rfl, by decide +kernel, rfl, by decide +kernel, by decide +kernel⟩
abbrev N_law_int : List Str := ["actual", "expected"]
theorem sc_law_int : FnScope N_law_int ["actual", "expected"] (defScope s_law_int) := ⟨rfl, rfl, rfl, by decide +kernel, rfl, by decide +kernel, by decide +kernel⟩
abbrev N_law_tuple : List Str := ["actual", "expected", "k"]
theorem sc_law_tuple : FnScope N_law_tuple ["actual", "expected"] (defScope s_law_tuple) := ⟨rfl, rfl, rfl, by decide +kernel, rfl, by decide +kernel, by decide +kernel⟩
abbrev N_law_beside : List Str := ["place", "ties", "tie"]
theorem sc_law_beside : FnScope N_law_beside ["place", "ties"] (defScope s_law_beside) := ⟨rfl, rfl, rfl, by decide +kernel, rfl, by decide +kernel, by decide +kernel⟩
abbrev N_law_ties : List Str := ["cell", "places", "count", "cap", "drawn", "ties", "k", "low", "high"]
theorem sc_law_ties : FnScope N_law_ties ["cell", "places", "count", "cap"] (defScope s_law_ties) := ⟨rfl, rfl, rfl, by decide +kernel, rfl, by decide +kernel, by decide +kernel⟩
abbrev N_law_colouring : List Str := ["cell", "places", "ties", "colours", "digits", "setting", "place", "taken", "free", "other", "colour"]
theorem sc_law_colouring : FnScope N_law_colouring ["cell", "places", "ties", "colours"] (defScope s_law_colouring) := ⟨rfl, rfl, rfl, by decide +kernel, rfl, by decide +kernel, by decide +kernel⟩
abbrev N_law_put : List Str := ["setting", "at", "value"]
theorem sc_law_put : FnScope N_law_put ["setting", "at", "value"] (defScope s_law_put) := ⟨rfl, rfl, rfl, by decide +kernel, rfl, by decide +kernel, by decide +kernel⟩
abbrev N_law_spoilt : List Str := ["setting", "ties", "colours", "choice", "at", "tie"]
theorem sc_law_spoilt : FnScope N_law_spoilt ["setting", "ties", "colours", "choice", "at"] (defScope s_law_spoilt) := ⟨rfl, rfl, rfl, by decide +kernel, rfl, by decide +kernel, by decide +kernel⟩
abbrev N_law_coloured : List Str := ["setting", "places", "ties", "colours", "value", "tie"]
theorem sc_law_coloured : FnScope N_law_coloured ["setting", "places", "ties", "colours"] (defScope s_law_coloured) := ⟨rfl, rfl, rfl, by decide +kernel, rfl, by decide +kernel, by decide +kernel⟩
abbrev N_law_row_stands : List Str := ["row", "start", "goal", "ties", "colours", "settings", "k", "apart", "at", "setting"]
theorem sc_law_row_stands : FnScope N_law_row_stands ["row", "start", "goal", "ties", "colours"] (defScope s_law_row_stands) := ⟨rfl, rfl, rfl, by decide +kernel, rfl, by decide +kernel, by decide +kernel⟩
abbrev N_law_refused : List Str := ["web", "colours", "start", "goal", "word", "due", "e"]
theorem sc_law_refused : FnScope N_law_refused ["web", "colours", "start", "goal", "word", "due"] (defScope s_law_refused) := ⟨rfl, rfl, rfl, by decide +kernel, rfl, by decide +kernel, by decide +kernel⟩
abbrev N_law_pairs_refused : List Str := ["n", "e"]
theorem sc_law_pairs_refused : FnScope N_law_pairs_refused ["n"] (defScope s_law_pairs_refused) := ⟨rfl, rfl, rfl, by decide +kernel, rfl, by decide +kernel, by decide +kernel⟩
abbrev N_law_pairs_stand : List Str := ["n", "told", "web", "setting", "ties", "k", "j", "world", "stuck", "place", "colour", "other", "value"]
theorem sc_law_pairs_stand : FnScope N_law_pairs_stand ["n"] (defScope s_law_pairs_stand) := ⟨rfl, rfl, rfl, by decide +kernel, rfl, by decide +kernel, by decide +kernel⟩
abbrev N_law : List Str := ["script", "shape", "places", "count", "ties", "needed", "colours", "start", "goal", "web", "wrong", "other", "place"]
theorem sc_law : FnScope N_law ["script"] (defScope s_law) := ⟨rfl, rfl, rfl, by decide +kernel, rfl, by decide +kernel, by decide +kernel⟩
structure Ad where
  C_StepError : Addr
  C_BadWeb : Addr
  f_BadWebw_initw : Addr
  d_BadWebw_initw : FuncData
  k_BadWebw_initw : Addr
  c_BadWebw_initw : Addr
  C_BadWorld : Addr
  f_BadWorldw_initw : Addr
  d_BadWorldw_initw : FuncData
  k_BadWorldw_initw : Addr
  c_BadWorldw_initw : Addr
  C_NotARow : Addr
  f_NotARoww_initw : Addr
  d_NotARoww_initw : FuncData
  k_NotARoww_initw : Addr
  c_NotARoww_initw : Addr
  C_NotAnAnswer : Addr
  f_NotAnAnswerw_initw : Addr
  d_NotAnAnswerw_initw : FuncData
  k_NotAnAnswerw_initw : Addr
  c_NotAnAnswerw_initw : Addr
  C_RowsApart : Addr
  f_RowsApartw_initw : Addr
  d_RowsApartw_initw : FuncData
  k_RowsApartw_initw : Addr
  c_RowsApartw_initw : Addr
  C_TooFew : Addr
  f_TooFeww_initw : Addr
  d_TooFeww_initw : FuncData
  k_TooFeww_initw : Addr
  c_TooFeww_initw : Addr
  C_World : Addr
  C_Colours : Addr
  C_Row : Addr
  C_Web : Addr
  f_with_value : Addr
  d_with_value : FuncData
  f_Worldw_initw : Addr
  d_Worldw_initw : FuncData
  f_World_is_answer : Addr
  d_World_is_answer : FuncData
  f_World_next_answers : Addr
  d_World_next_answers : FuncData
  f_check_answer : Addr
  d_check_answer : FuncData
  f_Coloursw_initw : Addr
  d_Coloursw_initw : FuncData
  k_Coloursw_initw : Addr
  c_Coloursw_initw : Addr
  f_Colours_is_answer : Addr
  d_Colours_is_answer : FuncData
  f_Colours_next_answers : Addr
  d_Colours_next_answers : FuncData
  f_Roww_initw : Addr
  d_Roww_initw : FuncData
  f_Row_start : Addr
  d_Row_start : FuncData
  p_Row_start : Addr
  f_Row_goal : Addr
  d_Row_goal : FuncData
  p_Row_goal : Addr
  f_Row_steps : Addr
  d_Row_steps : FuncData
  p_Row_steps : Addr
  f_Roww_addw : Addr
  d_Roww_addw : FuncData
  f_Roww_iterw : Addr
  d_Roww_iterw : FuncData
  f_Webw_initw : Addr
  d_Webw_initw : FuncData
  f_Web_tied : Addr
  d_Web_tied : FuncData
  f_most_beside : Addr
  d_most_beside : FuncData
  f_spare_colour : Addr
  d_spare_colour : FuncData
  f_lead_many : Addr
  d_lead_many : FuncData
  f_frozen_pairs : Addr
  d_frozen_pairs : FuncData
  f_law_cell : Addr
  d_law_cell : FuncData
  f_law_draw : Addr
  d_law_draw : FuncData
  f_law_int : Addr
  d_law_int : FuncData
  f_law_tuple : Addr
  d_law_tuple : FuncData
  f_law_beside : Addr
  d_law_beside : FuncData
  f_law_ties : Addr
  d_law_ties : FuncData
  f_law_colouring : Addr
  d_law_colouring : FuncData
  f_law_put : Addr
  d_law_put : FuncData
  f_law_spoilt : Addr
  d_law_spoilt : FuncData
  f_law_coloured : Addr
  d_law_coloured : FuncData
  f_law_row_stands : Addr
  d_law_row_stands : FuncData
  f_law_refused : Addr
  d_law_refused : FuncData
  f_law_pairs_refused : Addr
  d_law_pairs_refused : FuncData
  f_law_pairs_stand : Addr
  d_law_pairs_stand : FuncData
  f_law : Addr
  d_law : FuncData
structure Txt (P : Program) (K : PySem.W.Frag) (mg : Str → Option Value) (a : Ad) : Prop where
  z_ValueError : mg "ValueError" = none
  z_all : mg "all" = none
  z_bool : mg "bool" = none
  z_enumerate : mg "enumerate" = none
  z_int : mg "int" = none
  z_isinstance : mg "isinstance" = none
  z_iter : mg "iter" = none
  z_len : mg "len" = none
  z_list : mg "list" = none
  z_max : mg "max" = none
  z_min : mg "min" = none
  z_range : mg "range" = none
  z_sorted : mg "sorted" = none
  z_super : mg "super" = none
  z_tuple : mg "tuple" = none
  m_MOST_PLACES : ∃ t, mg "MOST_PLACES" = some (.int 24 t)
  m_MOST_TIES : ∃ t, mg "MOST_TIES" = some (.int 60 t)
  m_StepError : mg "StepError" = some (.ref a.C_StepError)
  xc_StepError : ExcC K a.C_StepError
  xf_StepError : XfC K a.C_StepError
  m_BadWeb : mg "BadWeb" = some (.ref a.C_BadWeb)
  xc_BadWeb : ExcC K a.C_BadWeb
  xf_BadWeb : XfC K a.C_BadWeb
  F_BadWebw_initw : SupF P K mg "__init__" "BadWeb.__init__" s_BadWebw_initw a.f_BadWebw_initw a.k_BadWebw_initw a.c_BadWebw_initw a.C_BadWeb a.d_BadWebw_initw
  S_BadWebw_initw : SupE K a.C_BadWeb a.C_BadWeb
  b_BadWebw_initw : Binds K a.d_BadWebw_initw ["self", "index"] []
  i_BadWebw_initw : PySem.W.findIn K (.ref a.C_BadWeb) "__init__" = some (some (.ref a.f_BadWebw_initw))
  ti_BadWebw_initw : PySem.W.typeIn K (.ref a.f_BadWebw_initw) = some (.type "function")
  nf_BadWeb_index : PySem.W.findIn K (.ref a.C_BadWeb) "index" = some none
  m_BadWorld : mg "BadWorld" = some (.ref a.C_BadWorld)
  xc_BadWorld : ExcC K a.C_BadWorld
  xf_BadWorld : XfC K a.C_BadWorld
  F_BadWorldw_initw : SupF P K mg "__init__" "BadWorld.__init__" s_BadWorldw_initw a.f_BadWorldw_initw a.k_BadWorldw_initw a.c_BadWorldw_initw a.C_BadWorld a.d_BadWorldw_initw
  S_BadWorldw_initw : SupE K a.C_BadWorld a.C_BadWorld
  b_BadWorldw_initw : Binds K a.d_BadWorldw_initw ["self", "index"] []
  i_BadWorldw_initw : PySem.W.findIn K (.ref a.C_BadWorld) "__init__" = some (some (.ref a.f_BadWorldw_initw))
  ti_BadWorldw_initw : PySem.W.typeIn K (.ref a.f_BadWorldw_initw) = some (.type "function")
  nf_BadWorld_index : PySem.W.findIn K (.ref a.C_BadWorld) "index" = some none
  m_NotARow : mg "NotARow" = some (.ref a.C_NotARow)
  xc_NotARow : ExcC K a.C_NotARow
  xf_NotARow : XfC K a.C_NotARow
  F_NotARoww_initw : SupF P K mg "__init__" "NotARow.__init__" s_NotARoww_initw a.f_NotARoww_initw a.k_NotARoww_initw a.c_NotARoww_initw a.C_NotARow a.d_NotARoww_initw
  S_NotARoww_initw : SupE K a.C_NotARow a.C_NotARow
  b_NotARoww_initw : Binds K a.d_NotARoww_initw ["self", "index"] []
  i_NotARoww_initw : PySem.W.findIn K (.ref a.C_NotARow) "__init__" = some (some (.ref a.f_NotARoww_initw))
  ti_NotARoww_initw : PySem.W.typeIn K (.ref a.f_NotARoww_initw) = some (.type "function")
  nf_NotARow_index : PySem.W.findIn K (.ref a.C_NotARow) "index" = some none
  m_NotAnAnswer : mg "NotAnAnswer" = some (.ref a.C_NotAnAnswer)
  xc_NotAnAnswer : ExcC K a.C_NotAnAnswer
  xf_NotAnAnswer : XfC K a.C_NotAnAnswer
  F_NotAnAnswerw_initw : SupF P K mg "__init__" "NotAnAnswer.__init__" s_NotAnAnswerw_initw a.f_NotAnAnswerw_initw a.k_NotAnAnswerw_initw a.c_NotAnAnswerw_initw a.C_NotAnAnswer a.d_NotAnAnswerw_initw
  S_NotAnAnswerw_initw : SupE K a.C_NotAnAnswer a.C_NotAnAnswer
  b_NotAnAnswerw_initw : Binds K a.d_NotAnAnswerw_initw ["self", "setting"] []
  i_NotAnAnswerw_initw : PySem.W.findIn K (.ref a.C_NotAnAnswer) "__init__" = some (some (.ref a.f_NotAnAnswerw_initw))
  ti_NotAnAnswerw_initw : PySem.W.typeIn K (.ref a.f_NotAnAnswerw_initw) = some (.type "function")
  nf_NotAnAnswer_setting : PySem.W.findIn K (.ref a.C_NotAnAnswer) "setting" = some none
  m_RowsApart : mg "RowsApart" = some (.ref a.C_RowsApart)
  xc_RowsApart : ExcC K a.C_RowsApart
  xf_RowsApart : XfC K a.C_RowsApart
  F_RowsApartw_initw : SupF P K mg "__init__" "RowsApart.__init__" s_RowsApartw_initw a.f_RowsApartw_initw a.k_RowsApartw_initw a.c_RowsApartw_initw a.C_RowsApart a.d_RowsApartw_initw
  S_RowsApartw_initw : SupE K a.C_RowsApart a.C_RowsApart
  b_RowsApartw_initw : Binds K a.d_RowsApartw_initw ["self", "first", "second"] []
  i_RowsApartw_initw : PySem.W.findIn K (.ref a.C_RowsApart) "__init__" = some (some (.ref a.f_RowsApartw_initw))
  ti_RowsApartw_initw : PySem.W.typeIn K (.ref a.f_RowsApartw_initw) = some (.type "function")
  m_TooFew : mg "TooFew" = some (.ref a.C_TooFew)
  xc_TooFew : ExcC K a.C_TooFew
  xf_TooFew : XfC K a.C_TooFew
  F_TooFeww_initw : SupF P K mg "__init__" "TooFew.__init__" s_TooFeww_initw a.f_TooFeww_initw a.k_TooFeww_initw a.c_TooFeww_initw a.C_TooFew a.d_TooFeww_initw
  S_TooFeww_initw : SupE K a.C_TooFew a.C_TooFew
  b_TooFeww_initw : Binds K a.d_TooFeww_initw ["self", "needed"] []
  i_TooFeww_initw : PySem.W.findIn K (.ref a.C_TooFew) "__init__" = some (some (.ref a.f_TooFeww_initw))
  ti_TooFeww_initw : PySem.W.typeIn K (.ref a.f_TooFeww_initw) = some (.type "function")
  nf_TooFew_needed : PySem.W.findIn K (.ref a.C_TooFew) "needed" = some none
  m_World : mg "World" = some (.ref a.C_World)
  cl_World : Cls K a.C_World
  ty_World : ∀ (H : Hp) (x dx : Addr) (fs : List (Str × V)), H x = some (.ins a.C_World dx fs) → TyX K H (.ref x) (.ref a.C_World)
  na_World_size : NoAttr K a.C_World "size"
  m_Colours : mg "Colours" = some (.ref a.C_Colours)
  cl_Colours : Cls K a.C_Colours
  ty_Colours : ∀ (H : Hp) (x dx : Addr) (fs : List (Str × V)), H x = some (.ins a.C_Colours dx fs) → TyX K H (.ref x) (.ref a.C_Colours)
  na_Colours_web : NoAttr K a.C_Colours "web"
  na_Colours_colours : NoAttr K a.C_Colours "colours"
  na_Colours_size : NoAttr K a.C_Colours "size"
  m_Row : mg "Row" = some (.ref a.C_Row)
  cl_Row : Cls K a.C_Row
  ty_Row : ∀ (H : Hp) (x dx : Addr) (fs : List (Str × V)), H x = some (.ins a.C_Row dx fs) → TyX K H (.ref x) (.ref a.C_Row)
  na_Row_settings : NoAttr K a.C_Row "settings"
  m_Web : mg "Web" = some (.ref a.C_Web)
  cl_Web : Cls K a.C_Web
  ty_Web : ∀ (H : Hp) (x dx : Addr) (fs : List (Str × V)), H x = some (.ins a.C_Web dx fs) → TyX K H (.ref x) (.ref a.C_Web)
  na_Web_places : NoAttr K a.C_Web "places"
  na_Web_ties : NoAttr K a.C_Web "ties"
  na_Web_near : NoAttr K a.C_Web "near"
  m_with_value : mg "with_value" = some (.ref a.f_with_value)
  F_with_value : Fun K "with_value" "with_value" s_with_value a.f_with_value a.d_with_value
  b_with_value : Binds K a.d_with_value ["setting", "position", "value"] []
  F_Worldw_initw : Fun K "__init__" "World.__init__" s_Worldw_initw a.f_Worldw_initw a.d_Worldw_initw
  b_Worldw_initw : Binds K a.d_Worldw_initw ["self", "size"] []
  mk_World : Mk K a.C_World a.f_Worldw_initw
  F_World_is_answer : Fun K "is_answer" "World.is_answer" s_World_is_answer a.f_World_is_answer a.d_World_is_answer
  b_World_is_answer : Binds K a.d_World_is_answer ["self", "setting"] []
  me_World_is_answer : Meth K a.C_World "is_answer" a.f_World_is_answer
  F_World_next_answers : Fun K "next_answers" "World.next_answers" s_World_next_answers a.f_World_next_answers a.d_World_next_answers
  b_World_next_answers : Binds K a.d_World_next_answers ["self", "setting"] []
  me_World_next_answers : Meth K a.C_World "next_answers" a.f_World_next_answers
  m_check_answer : mg "check_answer" = some (.ref a.f_check_answer)
  F_check_answer : Fun K "check_answer" "check_answer" s_check_answer a.f_check_answer a.d_check_answer
  b_check_answer : Binds K a.d_check_answer ["world", "setting"] []
  mk_Colours : Mk K a.C_Colours a.f_Coloursw_initw
  F_Coloursw_initw : SupF P K mg "__init__" "Colours.__init__" s_Coloursw_initw a.f_Coloursw_initw a.k_Coloursw_initw a.c_Coloursw_initw a.C_Colours a.d_Coloursw_initw
  S_Coloursw_initw : SupM K a.C_Colours a.C_Colours a.f_Worldw_initw
  b_Coloursw_initw : Binds K a.d_Coloursw_initw ["self", "web", "colours"] []
  F_Colours_is_answer : Fun K "is_answer" "Colours.is_answer" s_Colours_is_answer a.f_Colours_is_answer a.d_Colours_is_answer
  b_Colours_is_answer : Binds K a.d_Colours_is_answer ["self", "setting"] []
  me_Colours_is_answer : Meth K a.C_Colours "is_answer" a.f_Colours_is_answer
  F_Colours_next_answers : Fun K "next_answers" "Colours.next_answers" s_Colours_next_answers a.f_Colours_next_answers a.d_Colours_next_answers
  b_Colours_next_answers : Binds K a.d_Colours_next_answers ["self", "setting"] []
  me_Colours_next_answers : Meth K a.C_Colours "next_answers" a.f_Colours_next_answers
  F_Roww_initw : Fun K "__init__" "Row.__init__" s_Roww_initw a.f_Roww_initw a.d_Roww_initw
  b_Roww_initw : Binds K a.d_Roww_initw ["self", "settings"] []
  mk_Row : Mk K a.C_Row a.f_Roww_initw
  p_Row_start : PropOf K a.C_Row "start" a.p_Row_start a.f_Row_start
  F_Row_start : Fun K "start" "Row.start" s_Row_start a.f_Row_start a.d_Row_start
  b_Row_start : Binds K a.d_Row_start ["self"] []
  p_Row_goal : PropOf K a.C_Row "goal" a.p_Row_goal a.f_Row_goal
  F_Row_goal : Fun K "goal" "Row.goal" s_Row_goal a.f_Row_goal a.d_Row_goal
  b_Row_goal : Binds K a.d_Row_goal ["self"] []
  p_Row_steps : PropOf K a.C_Row "steps" a.p_Row_steps a.f_Row_steps
  F_Row_steps : Fun K "steps" "Row.steps" s_Row_steps a.f_Row_steps a.d_Row_steps
  b_Row_steps : Binds K a.d_Row_steps ["self"] []
  F_Roww_addw : Fun K "__add__" "Row.__add__" s_Roww_addw a.f_Roww_addw a.d_Roww_addw
  b_Roww_addw : Binds K a.d_Roww_addw ["self", "other"] []
  op_Roww_addw : OpC K a.C_Row a.f_Roww_addw "__add__"
  F_Roww_iterw : Fun K "__iter__" "Row.__iter__" s_Roww_iterw a.f_Roww_iterw a.d_Roww_iterw
  b_Roww_iterw : Binds K a.d_Roww_iterw ["self"] []
  oi_Row : OwnIt K a.C_Row a.f_Roww_iterw
  F_Webw_initw : Fun K "__init__" "Web.__init__" s_Webw_initw a.f_Webw_initw a.d_Webw_initw
  b_Webw_initw : Binds K a.d_Webw_initw ["self", "places", "ties"] []
  mk_Web : Mk K a.C_Web a.f_Webw_initw
  F_Web_tied : Fun K "tied" "Web.tied" s_Web_tied a.f_Web_tied a.d_Web_tied
  b_Web_tied : Binds K a.d_Web_tied ["self", "one", "other"] []
  me_Web_tied : Meth K a.C_Web "tied" a.f_Web_tied
  m_most_beside : mg "most_beside" = some (.ref a.f_most_beside)
  F_most_beside : Fun K "most_beside" "most_beside" s_most_beside a.f_most_beside a.d_most_beside
  b_most_beside : Binds K a.d_most_beside ["web"] []
  m_spare_colour : mg "spare_colour" = some (.ref a.f_spare_colour)
  F_spare_colour : Fun K "spare_colour" "spare_colour" s_spare_colour a.f_spare_colour a.d_spare_colour
  b_spare_colour : Binds K a.d_spare_colour ["web", "colours", "setting", "place", "barred"] []
  m_lead_many : mg "lead_many" = some (.ref a.f_lead_many)
  F_lead_many : Fun K "lead_many" "lead_many" s_lead_many a.f_lead_many a.d_lead_many
  b_lead_many : Binds K a.d_lead_many ["web", "colours", "start", "goal"] []
  m_frozen_pairs : mg "frozen_pairs" = some (.ref a.f_frozen_pairs)
  F_frozen_pairs : Fun K "frozen_pairs" "frozen_pairs" s_frozen_pairs a.f_frozen_pairs a.d_frozen_pairs
  b_frozen_pairs : Binds K a.d_frozen_pairs ["n"] []
  m__law_cell : mg "_law_cell" = some (.ref a.f_law_cell)
  F_law_cell : Fun K "_law_cell" "_law_cell" s_law_cell a.f_law_cell a.d_law_cell
  b_law_cell : Binds K a.d_law_cell ["script", "k"] []
  m__law_draw : mg "_law_draw" = some (.ref a.f_law_draw)
  F_law_draw : Fun K "_law_draw" "_law_draw" s_law_draw a.f_law_draw a.d_law_draw
  b_law_draw : Binds K a.d_law_draw ["cell", "bases"] []
  m__law_int : mg "_law_int" = some (.ref a.f_law_int)
  F_law_int : Fun K "_law_int" "_law_int" s_law_int a.f_law_int a.d_law_int
  b_law_int : Binds K a.d_law_int ["actual", "expected"] []
  m__law_tuple : mg "_law_tuple" = some (.ref a.f_law_tuple)
  F_law_tuple : Fun K "_law_tuple" "_law_tuple" s_law_tuple a.f_law_tuple a.d_law_tuple
  b_law_tuple : Binds K a.d_law_tuple ["actual", "expected"] []
  m__law_beside : mg "_law_beside" = some (.ref a.f_law_beside)
  F_law_beside : Fun K "_law_beside" "_law_beside" s_law_beside a.f_law_beside a.d_law_beside
  b_law_beside : Binds K a.d_law_beside ["place", "ties"] []
  m__law_ties : mg "_law_ties" = some (.ref a.f_law_ties)
  F_law_ties : Fun K "_law_ties" "_law_ties" s_law_ties a.f_law_ties a.d_law_ties
  b_law_ties : Binds K a.d_law_ties ["cell", "places", "count", "cap"] []
  m__law_colouring : mg "_law_colouring" = some (.ref a.f_law_colouring)
  F_law_colouring : Fun K "_law_colouring" "_law_colouring" s_law_colouring a.f_law_colouring a.d_law_colouring
  b_law_colouring : Binds K a.d_law_colouring ["cell", "places", "ties", "colours"] []
  m__law_put : mg "_law_put" = some (.ref a.f_law_put)
  F_law_put : Fun K "_law_put" "_law_put" s_law_put a.f_law_put a.d_law_put
  b_law_put : Binds K a.d_law_put ["setting", "at", "value"] []
  m__law_spoilt : mg "_law_spoilt" = some (.ref a.f_law_spoilt)
  F_law_spoilt : Fun K "_law_spoilt" "_law_spoilt" s_law_spoilt a.f_law_spoilt a.d_law_spoilt
  b_law_spoilt : Binds K a.d_law_spoilt ["setting", "ties", "colours", "choice", "at"] []
  m__law_coloured : mg "_law_coloured" = some (.ref a.f_law_coloured)
  F_law_coloured : Fun K "_law_coloured" "_law_coloured" s_law_coloured a.f_law_coloured a.d_law_coloured
  b_law_coloured : Binds K a.d_law_coloured ["setting", "places", "ties", "colours"] []
  m__law_row_stands : mg "_law_row_stands" = some (.ref a.f_law_row_stands)
  F_law_row_stands : Fun K "_law_row_stands" "_law_row_stands" s_law_row_stands a.f_law_row_stands a.d_law_row_stands
  b_law_row_stands : Binds K a.d_law_row_stands ["row", "start", "goal", "ties", "colours"] []
  m__law_refused : mg "_law_refused" = some (.ref a.f_law_refused)
  F_law_refused : Fun K "_law_refused" "_law_refused" s_law_refused a.f_law_refused a.d_law_refused
  b_law_refused : Binds K a.d_law_refused ["web", "colours", "start", "goal", "word", "due"] []
  m__law_pairs_refused : mg "_law_pairs_refused" = some (.ref a.f_law_pairs_refused)
  F_law_pairs_refused : Fun K "_law_pairs_refused" "_law_pairs_refused" s_law_pairs_refused a.f_law_pairs_refused a.d_law_pairs_refused
  b_law_pairs_refused : Binds K a.d_law_pairs_refused ["n"] []
  m__law_pairs_stand : mg "_law_pairs_stand" = some (.ref a.f_law_pairs_stand)
  F_law_pairs_stand : Fun K "_law_pairs_stand" "_law_pairs_stand" s_law_pairs_stand a.f_law_pairs_stand a.d_law_pairs_stand
  b_law_pairs_stand : Binds K a.d_law_pairs_stand ["n"] []
  m_law : mg "law" = some (.ref a.f_law)
  F_law : Fun K "law" "law" s_law a.f_law a.d_law
  b_law : Binds K a.d_law ["script"] []
  cr_Colours : ClX.CRead K a.C_Colours (.type "type")
  cv_Colours_MOST_PLACES : ∃ t, ClX.CVal K a.C_Colours (.type "type") "MOST_PLACES" (.int 14) (.int 14 t)
  cv_Colours_MOST_COLOURS : ∃ t, ClX.CVal K a.C_Colours (.type "type") "MOST_COLOURS" (.int 8) (.int 8 t)
  kit_Web_Web : PySem.W.kitOne K (.ref a.C_Web) (.ref a.C_Web) = some true
  kit_Row_Row : PySem.W.kitOne K (.ref a.C_Row) (.ref a.C_Row) = some true
  kit_BadWorld_TooFew : PySem.W.kitOne K (.ref a.C_BadWorld) (.ref a.C_TooFew) = some false
  kit_BadWorld_NotAnAnswer : PySem.W.kitOne K (.ref a.C_BadWorld) (.ref a.C_NotAnAnswer) = some false
  kit_BadWorld_StepError : PySem.W.kitOne K (.ref a.C_BadWorld) (.ref a.C_StepError) = some true
  kit_BadWorld_ValueError : PySem.W.kitOne K (.ref a.C_BadWorld) (.type "ValueError") = some true
  exm_BadWorld_BadWorld : PySem.W.exmOne K (.ref a.C_BadWorld) (.ref a.C_BadWorld) = some true
  exm_TooFew_BadWorld : PySem.W.exmOne K (.ref a.C_TooFew) (.ref a.C_BadWorld) = some false
  exm_TooFew_TooFew : PySem.W.exmOne K (.ref a.C_TooFew) (.ref a.C_TooFew) = some true
  kit_TooFew_NotAnAnswer : PySem.W.kitOne K (.ref a.C_TooFew) (.ref a.C_NotAnAnswer) = some false
  kit_TooFew_StepError : PySem.W.kitOne K (.ref a.C_TooFew) (.ref a.C_StepError) = some true
  kit_TooFew_ValueError : PySem.W.kitOne K (.ref a.C_TooFew) (.type "ValueError") = some true
  exm_NotAnAnswer_BadWorld : PySem.W.exmOne K (.ref a.C_NotAnAnswer) (.ref a.C_BadWorld) = some false
  exm_NotAnAnswer_TooFew : PySem.W.exmOne K (.ref a.C_NotAnAnswer) (.ref a.C_TooFew) = some false
  exm_NotAnAnswer_NotAnAnswer : PySem.W.exmOne K (.ref a.C_NotAnAnswer) (.ref a.C_NotAnAnswer) = some true
  kit_NotAnAnswer_StepError : PySem.W.kitOne K (.ref a.C_NotAnAnswer) (.ref a.C_StepError) = some true
  kit_NotAnAnswer_ValueError : PySem.W.kitOne K (.ref a.C_NotAnAnswer) (.type "ValueError") = some true
theorem all_mk {P : Program} {K : PySem.W.Frag} {h : Heap} {mg : Str → Option Value} (X : K.In h) (G : h.Ns mainGlobals mg)
  {t_MOST_PLACES : Tok}
  {t_MOST_TIES : Tok}
  {C_StepError : Addr}
  {C_BadWeb : Addr}
  {f_BadWebw_initw k_BadWebw_initw c_BadWebw_initw : Addr}
  {oc_BadWebw_initw dc_BadWebw_initw pm_BadWebw_initw ct_BadWebw_initw ccl_BadWebw_initw cl_BadWebw_initw : Value} {od_BadWebw_initw an_BadWebw_initw cdd_BadWebw_initw cld_BadWebw_initw : Option Addr} {sl_BadWebw_initw ccs_BadWebw_initw csl_BadWebw_initw : Array (Option Value)} {vs_BadWebw_initw : Array Value} {file_BadWebw_initw : Str} {tf_BadWebw_initw : Tok}
  {nm_BadWebw_initw qn_BadWebw_initw : Str} {Nn_BadWebw_initw : Addr} {bs_BadWebw_initw sub_BadWebw_initw : List Value} {sn_BadWebw_initw : List Str} {ab_BadWebw_initw : Bool} {col_BadWebw_initw : Option Bool} {dd_BadWebw_initw : Option Addr} {k0_BadWebw_initw k1_BadWebw_initw k2_BadWebw_initw k3_BadWebw_initw k5_BadWebw_initw : Option Value}
  {C_BadWorld : Addr}
  {f_BadWorldw_initw k_BadWorldw_initw c_BadWorldw_initw : Addr}
  {oc_BadWorldw_initw dc_BadWorldw_initw pm_BadWorldw_initw ct_BadWorldw_initw ccl_BadWorldw_initw cl_BadWorldw_initw : Value} {od_BadWorldw_initw an_BadWorldw_initw cdd_BadWorldw_initw cld_BadWorldw_initw : Option Addr} {sl_BadWorldw_initw ccs_BadWorldw_initw csl_BadWorldw_initw : Array (Option Value)} {vs_BadWorldw_initw : Array Value} {file_BadWorldw_initw : Str} {tf_BadWorldw_initw : Tok}
  {nm_BadWorldw_initw qn_BadWorldw_initw : Str} {Nn_BadWorldw_initw : Addr} {bs_BadWorldw_initw sub_BadWorldw_initw : List Value} {sn_BadWorldw_initw : List Str} {ab_BadWorldw_initw : Bool} {col_BadWorldw_initw : Option Bool} {dd_BadWorldw_initw : Option Addr} {k0_BadWorldw_initw k1_BadWorldw_initw k2_BadWorldw_initw k3_BadWorldw_initw k5_BadWorldw_initw : Option Value}
  {C_NotARow : Addr}
  {f_NotARoww_initw k_NotARoww_initw c_NotARoww_initw : Addr}
  {oc_NotARoww_initw dc_NotARoww_initw pm_NotARoww_initw ct_NotARoww_initw ccl_NotARoww_initw cl_NotARoww_initw : Value} {od_NotARoww_initw an_NotARoww_initw cdd_NotARoww_initw cld_NotARoww_initw : Option Addr} {sl_NotARoww_initw ccs_NotARoww_initw csl_NotARoww_initw : Array (Option Value)} {vs_NotARoww_initw : Array Value} {file_NotARoww_initw : Str} {tf_NotARoww_initw : Tok}
  {nm_NotARoww_initw qn_NotARoww_initw : Str} {Nn_NotARoww_initw : Addr} {bs_NotARoww_initw sub_NotARoww_initw : List Value} {sn_NotARoww_initw : List Str} {ab_NotARoww_initw : Bool} {col_NotARoww_initw : Option Bool} {dd_NotARoww_initw : Option Addr} {k0_NotARoww_initw k1_NotARoww_initw k2_NotARoww_initw k3_NotARoww_initw k5_NotARoww_initw : Option Value}
  {C_NotAnAnswer : Addr}
  {f_NotAnAnswerw_initw k_NotAnAnswerw_initw c_NotAnAnswerw_initw : Addr}
  {oc_NotAnAnswerw_initw dc_NotAnAnswerw_initw pm_NotAnAnswerw_initw ct_NotAnAnswerw_initw ccl_NotAnAnswerw_initw cl_NotAnAnswerw_initw : Value} {od_NotAnAnswerw_initw an_NotAnAnswerw_initw cdd_NotAnAnswerw_initw cld_NotAnAnswerw_initw : Option Addr} {sl_NotAnAnswerw_initw ccs_NotAnAnswerw_initw csl_NotAnAnswerw_initw : Array (Option Value)} {vs_NotAnAnswerw_initw : Array Value} {file_NotAnAnswerw_initw : Str} {tf_NotAnAnswerw_initw : Tok}
  {nm_NotAnAnswerw_initw qn_NotAnAnswerw_initw : Str} {Nn_NotAnAnswerw_initw : Addr} {bs_NotAnAnswerw_initw sub_NotAnAnswerw_initw : List Value} {sn_NotAnAnswerw_initw : List Str} {ab_NotAnAnswerw_initw : Bool} {col_NotAnAnswerw_initw : Option Bool} {dd_NotAnAnswerw_initw : Option Addr} {k0_NotAnAnswerw_initw k1_NotAnAnswerw_initw k2_NotAnAnswerw_initw k3_NotAnAnswerw_initw k5_NotAnAnswerw_initw : Option Value}
  {C_RowsApart : Addr}
  {f_RowsApartw_initw k_RowsApartw_initw c_RowsApartw_initw : Addr}
  {oc_RowsApartw_initw dc_RowsApartw_initw pm_RowsApartw_initw ct_RowsApartw_initw ccl_RowsApartw_initw cl_RowsApartw_initw : Value} {od_RowsApartw_initw an_RowsApartw_initw cdd_RowsApartw_initw cld_RowsApartw_initw : Option Addr} {sl_RowsApartw_initw ccs_RowsApartw_initw csl_RowsApartw_initw : Array (Option Value)} {vs_RowsApartw_initw : Array Value} {file_RowsApartw_initw : Str} {tf_RowsApartw_initw : Tok}
  {nm_RowsApartw_initw qn_RowsApartw_initw : Str} {Nn_RowsApartw_initw : Addr} {bs_RowsApartw_initw sub_RowsApartw_initw : List Value} {sn_RowsApartw_initw : List Str} {ab_RowsApartw_initw : Bool} {col_RowsApartw_initw : Option Bool} {dd_RowsApartw_initw : Option Addr} {k0_RowsApartw_initw k1_RowsApartw_initw k2_RowsApartw_initw k3_RowsApartw_initw k5_RowsApartw_initw : Option Value}
  {C_TooFew : Addr}
  {f_TooFeww_initw k_TooFeww_initw c_TooFeww_initw : Addr}
  {oc_TooFeww_initw dc_TooFeww_initw pm_TooFeww_initw ct_TooFeww_initw ccl_TooFeww_initw cl_TooFeww_initw : Value} {od_TooFeww_initw an_TooFeww_initw cdd_TooFeww_initw cld_TooFeww_initw : Option Addr} {sl_TooFeww_initw ccs_TooFeww_initw csl_TooFeww_initw : Array (Option Value)} {vs_TooFeww_initw : Array Value} {file_TooFeww_initw : Str} {tf_TooFeww_initw : Tok}
  {nm_TooFeww_initw qn_TooFeww_initw : Str} {Nn_TooFeww_initw : Addr} {bs_TooFeww_initw sub_TooFeww_initw : List Value} {sn_TooFeww_initw : List Str} {ab_TooFeww_initw : Bool} {col_TooFeww_initw : Option Bool} {dd_TooFeww_initw : Option Addr} {k0_TooFeww_initw k1_TooFeww_initw k2_TooFeww_initw k3_TooFeww_initw k5_TooFeww_initw : Option Value}
  {C_World : Addr}
  {C_Colours : Addr}
  {C_Row : Addr}
  {C_Web : Addr}
  {f_with_value : Addr} {oc_with_value kV_with_value dc_with_value pm_with_value cd_with_value ct_with_value : Value} {od_with_value an_with_value : Option Addr} {sl_with_value : Array (Option Value)}
  {f_Worldw_initw : Addr} {oc_Worldw_initw kV_Worldw_initw dc_Worldw_initw pm_Worldw_initw cd_Worldw_initw ct_Worldw_initw : Value} {od_Worldw_initw an_Worldw_initw : Option Addr} {sl_Worldw_initw : Array (Option Value)}
  {f_World_is_answer : Addr} {oc_World_is_answer kV_World_is_answer dc_World_is_answer pm_World_is_answer cd_World_is_answer ct_World_is_answer : Value} {od_World_is_answer an_World_is_answer : Option Addr} {sl_World_is_answer : Array (Option Value)}
  {f_World_next_answers : Addr} {oc_World_next_answers kV_World_next_answers dc_World_next_answers pm_World_next_answers cd_World_next_answers ct_World_next_answers : Value} {od_World_next_answers an_World_next_answers : Option Addr} {sl_World_next_answers : Array (Option Value)}
  {f_check_answer : Addr} {oc_check_answer kV_check_answer dc_check_answer pm_check_answer cd_check_answer ct_check_answer : Value} {od_check_answer an_check_answer : Option Addr} {sl_check_answer : Array (Option Value)}
  {f_Coloursw_initw k_Coloursw_initw c_Coloursw_initw : Addr}
  {oc_Coloursw_initw dc_Coloursw_initw pm_Coloursw_initw ct_Coloursw_initw ccl_Coloursw_initw cl_Coloursw_initw : Value} {od_Coloursw_initw an_Coloursw_initw cdd_Coloursw_initw cld_Coloursw_initw : Option Addr} {sl_Coloursw_initw ccs_Coloursw_initw csl_Coloursw_initw : Array (Option Value)} {vs_Coloursw_initw : Array Value} {file_Coloursw_initw : Str} {tf_Coloursw_initw : Tok}
  {f_Colours_is_answer : Addr} {oc_Colours_is_answer kV_Colours_is_answer dc_Colours_is_answer pm_Colours_is_answer cd_Colours_is_answer ct_Colours_is_answer : Value} {od_Colours_is_answer an_Colours_is_answer : Option Addr} {sl_Colours_is_answer : Array (Option Value)}
  {f_Colours_next_answers : Addr} {oc_Colours_next_answers kV_Colours_next_answers dc_Colours_next_answers pm_Colours_next_answers cd_Colours_next_answers ct_Colours_next_answers : Value} {od_Colours_next_answers an_Colours_next_answers : Option Addr} {sl_Colours_next_answers : Array (Option Value)}
  {f_Roww_initw : Addr} {oc_Roww_initw kV_Roww_initw dc_Roww_initw pm_Roww_initw cd_Roww_initw ct_Roww_initw : Value} {od_Roww_initw an_Roww_initw : Option Addr} {sl_Roww_initw : Array (Option Value)}
  {f_Row_start : Addr} {oc_Row_start kV_Row_start dc_Row_start pm_Row_start cd_Row_start ct_Row_start : Value} {od_Row_start an_Row_start : Option Addr} {sl_Row_start : Array (Option Value)}
  {p_Row_start : Addr}
  {pr_Row_start : List Value}
  {f_Row_goal : Addr} {oc_Row_goal kV_Row_goal dc_Row_goal pm_Row_goal cd_Row_goal ct_Row_goal : Value} {od_Row_goal an_Row_goal : Option Addr} {sl_Row_goal : Array (Option Value)}
  {p_Row_goal : Addr}
  {pr_Row_goal : List Value}
  {f_Row_steps : Addr} {oc_Row_steps kV_Row_steps dc_Row_steps pm_Row_steps cd_Row_steps ct_Row_steps : Value} {od_Row_steps an_Row_steps : Option Addr} {sl_Row_steps : Array (Option Value)}
  {p_Row_steps : Addr}
  {pr_Row_steps : List Value}
  {f_Roww_addw : Addr} {oc_Roww_addw kV_Roww_addw dc_Roww_addw pm_Roww_addw cd_Roww_addw ct_Roww_addw : Value} {od_Roww_addw an_Roww_addw : Option Addr} {sl_Roww_addw : Array (Option Value)}
  {f_Roww_iterw : Addr} {oc_Roww_iterw kV_Roww_iterw dc_Roww_iterw pm_Roww_iterw cd_Roww_iterw ct_Roww_iterw : Value} {od_Roww_iterw an_Roww_iterw : Option Addr} {sl_Roww_iterw : Array (Option Value)}
  {f_Webw_initw : Addr} {oc_Webw_initw kV_Webw_initw dc_Webw_initw pm_Webw_initw cd_Webw_initw ct_Webw_initw : Value} {od_Webw_initw an_Webw_initw : Option Addr} {sl_Webw_initw : Array (Option Value)}
  {f_Web_tied : Addr} {oc_Web_tied kV_Web_tied dc_Web_tied pm_Web_tied cd_Web_tied ct_Web_tied : Value} {od_Web_tied an_Web_tied : Option Addr} {sl_Web_tied : Array (Option Value)}
  {f_most_beside : Addr} {oc_most_beside kV_most_beside dc_most_beside pm_most_beside cd_most_beside ct_most_beside : Value} {od_most_beside an_most_beside : Option Addr} {sl_most_beside : Array (Option Value)}
  {f_spare_colour : Addr} {oc_spare_colour kV_spare_colour dc_spare_colour pm_spare_colour cd_spare_colour ct_spare_colour : Value} {od_spare_colour an_spare_colour : Option Addr} {sl_spare_colour : Array (Option Value)}
  {f_lead_many : Addr} {oc_lead_many kV_lead_many dc_lead_many pm_lead_many cd_lead_many ct_lead_many : Value} {od_lead_many an_lead_many : Option Addr} {sl_lead_many : Array (Option Value)}
  {f_frozen_pairs : Addr} {oc_frozen_pairs kV_frozen_pairs dc_frozen_pairs pm_frozen_pairs cd_frozen_pairs ct_frozen_pairs : Value} {od_frozen_pairs an_frozen_pairs : Option Addr} {sl_frozen_pairs : Array (Option Value)}
  {f_law_cell : Addr} {oc_law_cell kV_law_cell dc_law_cell pm_law_cell cd_law_cell ct_law_cell : Value} {od_law_cell an_law_cell : Option Addr} {sl_law_cell : Array (Option Value)}
  {f_law_draw : Addr} {oc_law_draw kV_law_draw dc_law_draw pm_law_draw cd_law_draw ct_law_draw : Value} {od_law_draw an_law_draw : Option Addr} {sl_law_draw : Array (Option Value)}
  {f_law_int : Addr} {oc_law_int kV_law_int dc_law_int pm_law_int cd_law_int ct_law_int : Value} {od_law_int an_law_int : Option Addr} {sl_law_int : Array (Option Value)}
  {f_law_tuple : Addr} {oc_law_tuple kV_law_tuple dc_law_tuple pm_law_tuple cd_law_tuple ct_law_tuple : Value} {od_law_tuple an_law_tuple : Option Addr} {sl_law_tuple : Array (Option Value)}
  {f_law_beside : Addr} {oc_law_beside kV_law_beside dc_law_beside pm_law_beside cd_law_beside ct_law_beside : Value} {od_law_beside an_law_beside : Option Addr} {sl_law_beside : Array (Option Value)}
  {f_law_ties : Addr} {oc_law_ties kV_law_ties dc_law_ties pm_law_ties cd_law_ties ct_law_ties : Value} {od_law_ties an_law_ties : Option Addr} {sl_law_ties : Array (Option Value)}
  {f_law_colouring : Addr} {oc_law_colouring kV_law_colouring dc_law_colouring pm_law_colouring cd_law_colouring ct_law_colouring : Value} {od_law_colouring an_law_colouring : Option Addr} {sl_law_colouring : Array (Option Value)}
  {f_law_put : Addr} {oc_law_put kV_law_put dc_law_put pm_law_put cd_law_put ct_law_put : Value} {od_law_put an_law_put : Option Addr} {sl_law_put : Array (Option Value)}
  {f_law_spoilt : Addr} {oc_law_spoilt kV_law_spoilt dc_law_spoilt pm_law_spoilt cd_law_spoilt ct_law_spoilt : Value} {od_law_spoilt an_law_spoilt : Option Addr} {sl_law_spoilt : Array (Option Value)}
  {f_law_coloured : Addr} {oc_law_coloured kV_law_coloured dc_law_coloured pm_law_coloured cd_law_coloured ct_law_coloured : Value} {od_law_coloured an_law_coloured : Option Addr} {sl_law_coloured : Array (Option Value)}
  {f_law_row_stands : Addr} {oc_law_row_stands kV_law_row_stands dc_law_row_stands pm_law_row_stands cd_law_row_stands ct_law_row_stands : Value} {od_law_row_stands an_law_row_stands : Option Addr} {sl_law_row_stands : Array (Option Value)}
  {f_law_refused : Addr} {oc_law_refused kV_law_refused dc_law_refused pm_law_refused cd_law_refused ct_law_refused : Value} {od_law_refused an_law_refused : Option Addr} {sl_law_refused : Array (Option Value)}
  {f_law_pairs_refused : Addr} {oc_law_pairs_refused kV_law_pairs_refused dc_law_pairs_refused pm_law_pairs_refused cd_law_pairs_refused ct_law_pairs_refused : Value} {od_law_pairs_refused an_law_pairs_refused : Option Addr} {sl_law_pairs_refused : Array (Option Value)}
  {f_law_pairs_stand : Addr} {oc_law_pairs_stand kV_law_pairs_stand dc_law_pairs_stand pm_law_pairs_stand cd_law_pairs_stand ct_law_pairs_stand : Value} {od_law_pairs_stand an_law_pairs_stand : Option Addr} {sl_law_pairs_stand : Array (Option Value)}
  {f_law : Addr} {oc_law kV_law dc_law pm_law cd_law ct_law : Value} {od_law an_law : Option Addr} {sl_law : Array (Option Value)}
  {t_Colours_MOST_PLACES : Tok}
  {t_Colours_MOST_COLOURS : Tok}
  (z_ValueError : PySem.W.nsIn K mainGlobals "ValueError" = some none)
  (z_all : PySem.W.nsIn K mainGlobals "all" = some none)
  (z_bool : PySem.W.nsIn K mainGlobals "bool" = some none)
  (z_enumerate : PySem.W.nsIn K mainGlobals "enumerate" = some none)
  (z_int : PySem.W.nsIn K mainGlobals "int" = some none)
  (z_isinstance : PySem.W.nsIn K mainGlobals "isinstance" = some none)
  (z_iter : PySem.W.nsIn K mainGlobals "iter" = some none)
  (z_len : PySem.W.nsIn K mainGlobals "len" = some none)
  (z_list : PySem.W.nsIn K mainGlobals "list" = some none)
  (z_max : PySem.W.nsIn K mainGlobals "max" = some none)
  (z_min : PySem.W.nsIn K mainGlobals "min" = some none)
  (z_range : PySem.W.nsIn K mainGlobals "range" = some none)
  (z_sorted : PySem.W.nsIn K mainGlobals "sorted" = some none)
  (z_super : PySem.W.nsIn K mainGlobals "super" = some none)
  (z_tuple : PySem.W.nsIn K mainGlobals "tuple" = some none)
  (m_MOST_PLACES : PySem.W.nsIn K mainGlobals "MOST_PLACES" = some (some (.int 24 t_MOST_PLACES)))
  (m_MOST_TIES : PySem.W.nsIn K mainGlobals "MOST_TIES" = some (some (.int 60 t_MOST_TIES)))
  (m_StepError : PySem.W.nsIn K mainGlobals "StepError" = some (some (.ref C_StepError)))
  (hg_StepError : PySem.W.findIn K (.ref C_StepError) "__getattribute__" = some (some (.builtin "BaseException.__getattribute__")))
  (hk_StepError : PySem.W.findIn K (.ref C_StepError) "__getattr__" = some none)
  (hs_StepError : PySem.W.subIn K (.ref C_StepError) (.type "BaseException") = some true)
  (hd_StepError : PySem.W.hasDictIn K C_StepError = true)
  (ha_StepError : PySem.W.findIn K (.ref C_StepError) "__class__" = some (some (.builtin "object.__class__")))
  (hm_StepError : PySem.W.mroIn K C_StepError (.type "object") = some true)
  (m_BadWeb : PySem.W.nsIn K mainGlobals "BadWeb" = some (some (.ref C_BadWeb)))
  (hg_BadWeb : PySem.W.findIn K (.ref C_BadWeb) "__getattribute__" = some (some (.builtin "BaseException.__getattribute__")))
  (hk_BadWeb : PySem.W.findIn K (.ref C_BadWeb) "__getattr__" = some none)
  (hs_BadWeb : PySem.W.subIn K (.ref C_BadWeb) (.type "BaseException") = some true)
  (hd_BadWeb : PySem.W.hasDictIn K C_BadWeb = true)
  (ha_BadWeb : PySem.W.findIn K (.ref C_BadWeb) "__class__" = some (some (.builtin "object.__class__")))
  (hm_BadWeb : PySem.W.mroIn K C_BadWeb (.type "object") = some true)
  (x_BadWebw_initw : K.lookup C_BadWeb = some (excClassObj nm_BadWebw_initw qn_BadWebw_initw C_BadWeb Nn_BadWebw_initw bs_BadWebw_initw [(.ref C_StepError), (.type "ValueError"), (.type "Exception"), (.type "BaseException"), (.type "object")] true sn_BadWebw_initw sub_BadWebw_initw ab_BadWebw_initw col_BadWebw_initw dd_BadWebw_initw k0_BadWebw_initw k1_BadWebw_initw k2_BadWebw_initw k3_BadWebw_initw k5_BadWebw_initw "ValueError.__new__"))
  (rv_BadWebw_initw : PySem.HandSPX.refsVE [(.ref C_StepError), (.type "ValueError"), (.type "Exception"), (.type "BaseException"), (.type "object")] = true)
  (i_BadWebw_initw : PySem.W.findIn K (.ref C_BadWeb) "__init__" = some (some (.ref f_BadWebw_initw)))
  (l_BadWebw_initw : K.lookup f_BadWebw_initw = some ⟨oc_BadWebw_initw, od_BadWebw_initw, .func (PySem.W.ksFn "__init__" "BadWeb.__init__" (defArgs s_BadWebw_initw) (defBody s_BadWebw_initw) (defScope s_BadWebw_initw) .none .none dc_BadWebw_initw pm_BadWebw_initw an_BadWebw_initw (.ref k_BadWebw_initw) ct_BadWebw_initw c_BadWebw_initw), sl_BadWebw_initw⟩)
  (cd_BadWebw_initw : PySem.W.codeIn K (.ref k_BadWebw_initw) "BadWeb.__init__" = true)
  (kc_BadWebw_initw : K.lookup k_BadWebw_initw = some ⟨ccl_BadWebw_initw, cdd_BadWebw_initw, .fields vs_BadWebw_initw, ccs_BadWebw_initw⟩)
  (kv_BadWebw_initw : vs_BadWebw_initw[2]? = some (.str file_BadWebw_initw tf_BadWebw_initw))
  (kf_BadWebw_initw : (P.main.file == file_BadWebw_initw) = true)
  (cc_BadWebw_initw : K.lookup c_BadWebw_initw = some ⟨cl_BadWebw_initw, cld_BadWebw_initw, .cell (some (.ref C_BadWeb)), csl_BadWebw_initw⟩)
  (kp_BadWebw_initw : PySem.W.keepIn K (.ref f_BadWebw_initw) = true)
  (ti_BadWebw_initw : PySem.W.typeIn K (.ref f_BadWebw_initw) = some (.type "function"))
  (ic_BadWebw_initw : PySem.W.isClsIn K C_BadWeb = true)
  (sa_BadWebw_initw : PySem.W.findIn K (.ref C_BadWeb) "__setattr__" = some (some (.builtin "object.__setattr__")))
  (ty_BadWebw_initw : PySem.W.typeIn K (.ref C_BadWeb) = some (.type "type"))
  (ke_BadWebw_initw : PySem.W.keepIn K (.ref C_BadWeb) = true)
  (su_BadWebw_initw : PySem.W.ks_superIn K C_BadWeb C_BadWeb "__init__" = some (some (.builtin "ValueError.__init__")))
  (ve_BadWebw_initw : PySem.W.subIn K (.ref C_BadWeb) (.type "ValueError") = some true)
  (mr_BadWebw_initw : PySem.W.mroIn K C_BadWeb (.ref C_BadWeb) = some true)
  (nf_BadWeb_index : PySem.W.findIn K (.ref C_BadWeb) "index" = some none)
  (m_BadWorld : PySem.W.nsIn K mainGlobals "BadWorld" = some (some (.ref C_BadWorld)))
  (hg_BadWorld : PySem.W.findIn K (.ref C_BadWorld) "__getattribute__" = some (some (.builtin "BaseException.__getattribute__")))
  (hk_BadWorld : PySem.W.findIn K (.ref C_BadWorld) "__getattr__" = some none)
  (hs_BadWorld : PySem.W.subIn K (.ref C_BadWorld) (.type "BaseException") = some true)
  (hd_BadWorld : PySem.W.hasDictIn K C_BadWorld = true)
  (ha_BadWorld : PySem.W.findIn K (.ref C_BadWorld) "__class__" = some (some (.builtin "object.__class__")))
  (hm_BadWorld : PySem.W.mroIn K C_BadWorld (.type "object") = some true)
  (x_BadWorldw_initw : K.lookup C_BadWorld = some (excClassObj nm_BadWorldw_initw qn_BadWorldw_initw C_BadWorld Nn_BadWorldw_initw bs_BadWorldw_initw [(.ref C_StepError), (.type "ValueError"), (.type "Exception"), (.type "BaseException"), (.type "object")] true sn_BadWorldw_initw sub_BadWorldw_initw ab_BadWorldw_initw col_BadWorldw_initw dd_BadWorldw_initw k0_BadWorldw_initw k1_BadWorldw_initw k2_BadWorldw_initw k3_BadWorldw_initw k5_BadWorldw_initw "ValueError.__new__"))
  (rv_BadWorldw_initw : PySem.HandSPX.refsVE [(.ref C_StepError), (.type "ValueError"), (.type "Exception"), (.type "BaseException"), (.type "object")] = true)
  (i_BadWorldw_initw : PySem.W.findIn K (.ref C_BadWorld) "__init__" = some (some (.ref f_BadWorldw_initw)))
  (l_BadWorldw_initw : K.lookup f_BadWorldw_initw = some ⟨oc_BadWorldw_initw, od_BadWorldw_initw, .func (PySem.W.ksFn "__init__" "BadWorld.__init__" (defArgs s_BadWorldw_initw) (defBody s_BadWorldw_initw) (defScope s_BadWorldw_initw) .none .none dc_BadWorldw_initw pm_BadWorldw_initw an_BadWorldw_initw (.ref k_BadWorldw_initw) ct_BadWorldw_initw c_BadWorldw_initw), sl_BadWorldw_initw⟩)
  (cd_BadWorldw_initw : PySem.W.codeIn K (.ref k_BadWorldw_initw) "BadWorld.__init__" = true)
  (kc_BadWorldw_initw : K.lookup k_BadWorldw_initw = some ⟨ccl_BadWorldw_initw, cdd_BadWorldw_initw, .fields vs_BadWorldw_initw, ccs_BadWorldw_initw⟩)
  (kv_BadWorldw_initw : vs_BadWorldw_initw[2]? = some (.str file_BadWorldw_initw tf_BadWorldw_initw))
  (kf_BadWorldw_initw : (P.main.file == file_BadWorldw_initw) = true)
  (cc_BadWorldw_initw : K.lookup c_BadWorldw_initw = some ⟨cl_BadWorldw_initw, cld_BadWorldw_initw, .cell (some (.ref C_BadWorld)), csl_BadWorldw_initw⟩)
  (kp_BadWorldw_initw : PySem.W.keepIn K (.ref f_BadWorldw_initw) = true)
  (ti_BadWorldw_initw : PySem.W.typeIn K (.ref f_BadWorldw_initw) = some (.type "function"))
  (ic_BadWorldw_initw : PySem.W.isClsIn K C_BadWorld = true)
  (sa_BadWorldw_initw : PySem.W.findIn K (.ref C_BadWorld) "__setattr__" = some (some (.builtin "object.__setattr__")))
  (ty_BadWorldw_initw : PySem.W.typeIn K (.ref C_BadWorld) = some (.type "type"))
  (ke_BadWorldw_initw : PySem.W.keepIn K (.ref C_BadWorld) = true)
  (su_BadWorldw_initw : PySem.W.ks_superIn K C_BadWorld C_BadWorld "__init__" = some (some (.builtin "ValueError.__init__")))
  (ve_BadWorldw_initw : PySem.W.subIn K (.ref C_BadWorld) (.type "ValueError") = some true)
  (mr_BadWorldw_initw : PySem.W.mroIn K C_BadWorld (.ref C_BadWorld) = some true)
  (nf_BadWorld_index : PySem.W.findIn K (.ref C_BadWorld) "index" = some none)
  (m_NotARow : PySem.W.nsIn K mainGlobals "NotARow" = some (some (.ref C_NotARow)))
  (hg_NotARow : PySem.W.findIn K (.ref C_NotARow) "__getattribute__" = some (some (.builtin "BaseException.__getattribute__")))
  (hk_NotARow : PySem.W.findIn K (.ref C_NotARow) "__getattr__" = some none)
  (hs_NotARow : PySem.W.subIn K (.ref C_NotARow) (.type "BaseException") = some true)
  (hd_NotARow : PySem.W.hasDictIn K C_NotARow = true)
  (ha_NotARow : PySem.W.findIn K (.ref C_NotARow) "__class__" = some (some (.builtin "object.__class__")))
  (hm_NotARow : PySem.W.mroIn K C_NotARow (.type "object") = some true)
  (x_NotARoww_initw : K.lookup C_NotARow = some (excClassObj nm_NotARoww_initw qn_NotARoww_initw C_NotARow Nn_NotARoww_initw bs_NotARoww_initw [(.ref C_StepError), (.type "ValueError"), (.type "Exception"), (.type "BaseException"), (.type "object")] true sn_NotARoww_initw sub_NotARoww_initw ab_NotARoww_initw col_NotARoww_initw dd_NotARoww_initw k0_NotARoww_initw k1_NotARoww_initw k2_NotARoww_initw k3_NotARoww_initw k5_NotARoww_initw "ValueError.__new__"))
  (rv_NotARoww_initw : PySem.HandSPX.refsVE [(.ref C_StepError), (.type "ValueError"), (.type "Exception"), (.type "BaseException"), (.type "object")] = true)
  (i_NotARoww_initw : PySem.W.findIn K (.ref C_NotARow) "__init__" = some (some (.ref f_NotARoww_initw)))
  (l_NotARoww_initw : K.lookup f_NotARoww_initw = some ⟨oc_NotARoww_initw, od_NotARoww_initw, .func (PySem.W.ksFn "__init__" "NotARow.__init__" (defArgs s_NotARoww_initw) (defBody s_NotARoww_initw) (defScope s_NotARoww_initw) .none .none dc_NotARoww_initw pm_NotARoww_initw an_NotARoww_initw (.ref k_NotARoww_initw) ct_NotARoww_initw c_NotARoww_initw), sl_NotARoww_initw⟩)
  (cd_NotARoww_initw : PySem.W.codeIn K (.ref k_NotARoww_initw) "NotARow.__init__" = true)
  (kc_NotARoww_initw : K.lookup k_NotARoww_initw = some ⟨ccl_NotARoww_initw, cdd_NotARoww_initw, .fields vs_NotARoww_initw, ccs_NotARoww_initw⟩)
  (kv_NotARoww_initw : vs_NotARoww_initw[2]? = some (.str file_NotARoww_initw tf_NotARoww_initw))
  (kf_NotARoww_initw : (P.main.file == file_NotARoww_initw) = true)
  (cc_NotARoww_initw : K.lookup c_NotARoww_initw = some ⟨cl_NotARoww_initw, cld_NotARoww_initw, .cell (some (.ref C_NotARow)), csl_NotARoww_initw⟩)
  (kp_NotARoww_initw : PySem.W.keepIn K (.ref f_NotARoww_initw) = true)
  (ti_NotARoww_initw : PySem.W.typeIn K (.ref f_NotARoww_initw) = some (.type "function"))
  (ic_NotARoww_initw : PySem.W.isClsIn K C_NotARow = true)
  (sa_NotARoww_initw : PySem.W.findIn K (.ref C_NotARow) "__setattr__" = some (some (.builtin "object.__setattr__")))
  (ty_NotARoww_initw : PySem.W.typeIn K (.ref C_NotARow) = some (.type "type"))
  (ke_NotARoww_initw : PySem.W.keepIn K (.ref C_NotARow) = true)
  (su_NotARoww_initw : PySem.W.ks_superIn K C_NotARow C_NotARow "__init__" = some (some (.builtin "ValueError.__init__")))
  (ve_NotARoww_initw : PySem.W.subIn K (.ref C_NotARow) (.type "ValueError") = some true)
  (mr_NotARoww_initw : PySem.W.mroIn K C_NotARow (.ref C_NotARow) = some true)
  (nf_NotARow_index : PySem.W.findIn K (.ref C_NotARow) "index" = some none)
  (m_NotAnAnswer : PySem.W.nsIn K mainGlobals "NotAnAnswer" = some (some (.ref C_NotAnAnswer)))
  (hg_NotAnAnswer : PySem.W.findIn K (.ref C_NotAnAnswer) "__getattribute__" = some (some (.builtin "BaseException.__getattribute__")))
  (hk_NotAnAnswer : PySem.W.findIn K (.ref C_NotAnAnswer) "__getattr__" = some none)
  (hs_NotAnAnswer : PySem.W.subIn K (.ref C_NotAnAnswer) (.type "BaseException") = some true)
  (hd_NotAnAnswer : PySem.W.hasDictIn K C_NotAnAnswer = true)
  (ha_NotAnAnswer : PySem.W.findIn K (.ref C_NotAnAnswer) "__class__" = some (some (.builtin "object.__class__")))
  (hm_NotAnAnswer : PySem.W.mroIn K C_NotAnAnswer (.type "object") = some true)
  (x_NotAnAnswerw_initw : K.lookup C_NotAnAnswer = some (excClassObj nm_NotAnAnswerw_initw qn_NotAnAnswerw_initw C_NotAnAnswer Nn_NotAnAnswerw_initw bs_NotAnAnswerw_initw [(.ref C_StepError), (.type "ValueError"), (.type "Exception"), (.type "BaseException"), (.type "object")] true sn_NotAnAnswerw_initw sub_NotAnAnswerw_initw ab_NotAnAnswerw_initw col_NotAnAnswerw_initw dd_NotAnAnswerw_initw k0_NotAnAnswerw_initw k1_NotAnAnswerw_initw k2_NotAnAnswerw_initw k3_NotAnAnswerw_initw k5_NotAnAnswerw_initw "ValueError.__new__"))
  (rv_NotAnAnswerw_initw : PySem.HandSPX.refsVE [(.ref C_StepError), (.type "ValueError"), (.type "Exception"), (.type "BaseException"), (.type "object")] = true)
  (i_NotAnAnswerw_initw : PySem.W.findIn K (.ref C_NotAnAnswer) "__init__" = some (some (.ref f_NotAnAnswerw_initw)))
  (l_NotAnAnswerw_initw : K.lookup f_NotAnAnswerw_initw = some ⟨oc_NotAnAnswerw_initw, od_NotAnAnswerw_initw, .func (PySem.W.ksFn "__init__" "NotAnAnswer.__init__" (defArgs s_NotAnAnswerw_initw) (defBody s_NotAnAnswerw_initw) (defScope s_NotAnAnswerw_initw) .none .none dc_NotAnAnswerw_initw pm_NotAnAnswerw_initw an_NotAnAnswerw_initw (.ref k_NotAnAnswerw_initw) ct_NotAnAnswerw_initw c_NotAnAnswerw_initw), sl_NotAnAnswerw_initw⟩)
  (cd_NotAnAnswerw_initw : PySem.W.codeIn K (.ref k_NotAnAnswerw_initw) "NotAnAnswer.__init__" = true)
  (kc_NotAnAnswerw_initw : K.lookup k_NotAnAnswerw_initw = some ⟨ccl_NotAnAnswerw_initw, cdd_NotAnAnswerw_initw, .fields vs_NotAnAnswerw_initw, ccs_NotAnAnswerw_initw⟩)
  (kv_NotAnAnswerw_initw : vs_NotAnAnswerw_initw[2]? = some (.str file_NotAnAnswerw_initw tf_NotAnAnswerw_initw))
  (kf_NotAnAnswerw_initw : (P.main.file == file_NotAnAnswerw_initw) = true)
  (cc_NotAnAnswerw_initw : K.lookup c_NotAnAnswerw_initw = some ⟨cl_NotAnAnswerw_initw, cld_NotAnAnswerw_initw, .cell (some (.ref C_NotAnAnswer)), csl_NotAnAnswerw_initw⟩)
  (kp_NotAnAnswerw_initw : PySem.W.keepIn K (.ref f_NotAnAnswerw_initw) = true)
  (ti_NotAnAnswerw_initw : PySem.W.typeIn K (.ref f_NotAnAnswerw_initw) = some (.type "function"))
  (ic_NotAnAnswerw_initw : PySem.W.isClsIn K C_NotAnAnswer = true)
  (sa_NotAnAnswerw_initw : PySem.W.findIn K (.ref C_NotAnAnswer) "__setattr__" = some (some (.builtin "object.__setattr__")))
  (ty_NotAnAnswerw_initw : PySem.W.typeIn K (.ref C_NotAnAnswer) = some (.type "type"))
  (ke_NotAnAnswerw_initw : PySem.W.keepIn K (.ref C_NotAnAnswer) = true)
  (su_NotAnAnswerw_initw : PySem.W.ks_superIn K C_NotAnAnswer C_NotAnAnswer "__init__" = some (some (.builtin "ValueError.__init__")))
  (ve_NotAnAnswerw_initw : PySem.W.subIn K (.ref C_NotAnAnswer) (.type "ValueError") = some true)
  (mr_NotAnAnswerw_initw : PySem.W.mroIn K C_NotAnAnswer (.ref C_NotAnAnswer) = some true)
  (nf_NotAnAnswer_setting : PySem.W.findIn K (.ref C_NotAnAnswer) "setting" = some none)
  (m_RowsApart : PySem.W.nsIn K mainGlobals "RowsApart" = some (some (.ref C_RowsApart)))
  (hg_RowsApart : PySem.W.findIn K (.ref C_RowsApart) "__getattribute__" = some (some (.builtin "BaseException.__getattribute__")))
  (hk_RowsApart : PySem.W.findIn K (.ref C_RowsApart) "__getattr__" = some none)
  (hs_RowsApart : PySem.W.subIn K (.ref C_RowsApart) (.type "BaseException") = some true)
  (hd_RowsApart : PySem.W.hasDictIn K C_RowsApart = true)
  (ha_RowsApart : PySem.W.findIn K (.ref C_RowsApart) "__class__" = some (some (.builtin "object.__class__")))
  (hm_RowsApart : PySem.W.mroIn K C_RowsApart (.type "object") = some true)
  (x_RowsApartw_initw : K.lookup C_RowsApart = some (excClassObj nm_RowsApartw_initw qn_RowsApartw_initw C_RowsApart Nn_RowsApartw_initw bs_RowsApartw_initw [(.ref C_StepError), (.type "ValueError"), (.type "Exception"), (.type "BaseException"), (.type "object")] true sn_RowsApartw_initw sub_RowsApartw_initw ab_RowsApartw_initw col_RowsApartw_initw dd_RowsApartw_initw k0_RowsApartw_initw k1_RowsApartw_initw k2_RowsApartw_initw k3_RowsApartw_initw k5_RowsApartw_initw "ValueError.__new__"))
  (rv_RowsApartw_initw : PySem.HandSPX.refsVE [(.ref C_StepError), (.type "ValueError"), (.type "Exception"), (.type "BaseException"), (.type "object")] = true)
  (i_RowsApartw_initw : PySem.W.findIn K (.ref C_RowsApart) "__init__" = some (some (.ref f_RowsApartw_initw)))
  (l_RowsApartw_initw : K.lookup f_RowsApartw_initw = some ⟨oc_RowsApartw_initw, od_RowsApartw_initw, .func (PySem.W.ksFn "__init__" "RowsApart.__init__" (defArgs s_RowsApartw_initw) (defBody s_RowsApartw_initw) (defScope s_RowsApartw_initw) .none .none dc_RowsApartw_initw pm_RowsApartw_initw an_RowsApartw_initw (.ref k_RowsApartw_initw) ct_RowsApartw_initw c_RowsApartw_initw), sl_RowsApartw_initw⟩)
  (cd_RowsApartw_initw : PySem.W.codeIn K (.ref k_RowsApartw_initw) "RowsApart.__init__" = true)
  (kc_RowsApartw_initw : K.lookup k_RowsApartw_initw = some ⟨ccl_RowsApartw_initw, cdd_RowsApartw_initw, .fields vs_RowsApartw_initw, ccs_RowsApartw_initw⟩)
  (kv_RowsApartw_initw : vs_RowsApartw_initw[2]? = some (.str file_RowsApartw_initw tf_RowsApartw_initw))
  (kf_RowsApartw_initw : (P.main.file == file_RowsApartw_initw) = true)
  (cc_RowsApartw_initw : K.lookup c_RowsApartw_initw = some ⟨cl_RowsApartw_initw, cld_RowsApartw_initw, .cell (some (.ref C_RowsApart)), csl_RowsApartw_initw⟩)
  (kp_RowsApartw_initw : PySem.W.keepIn K (.ref f_RowsApartw_initw) = true)
  (ti_RowsApartw_initw : PySem.W.typeIn K (.ref f_RowsApartw_initw) = some (.type "function"))
  (ic_RowsApartw_initw : PySem.W.isClsIn K C_RowsApart = true)
  (sa_RowsApartw_initw : PySem.W.findIn K (.ref C_RowsApart) "__setattr__" = some (some (.builtin "object.__setattr__")))
  (ty_RowsApartw_initw : PySem.W.typeIn K (.ref C_RowsApart) = some (.type "type"))
  (ke_RowsApartw_initw : PySem.W.keepIn K (.ref C_RowsApart) = true)
  (su_RowsApartw_initw : PySem.W.ks_superIn K C_RowsApart C_RowsApart "__init__" = some (some (.builtin "ValueError.__init__")))
  (ve_RowsApartw_initw : PySem.W.subIn K (.ref C_RowsApart) (.type "ValueError") = some true)
  (mr_RowsApartw_initw : PySem.W.mroIn K C_RowsApart (.ref C_RowsApart) = some true)
  (m_TooFew : PySem.W.nsIn K mainGlobals "TooFew" = some (some (.ref C_TooFew)))
  (hg_TooFew : PySem.W.findIn K (.ref C_TooFew) "__getattribute__" = some (some (.builtin "BaseException.__getattribute__")))
  (hk_TooFew : PySem.W.findIn K (.ref C_TooFew) "__getattr__" = some none)
  (hs_TooFew : PySem.W.subIn K (.ref C_TooFew) (.type "BaseException") = some true)
  (hd_TooFew : PySem.W.hasDictIn K C_TooFew = true)
  (ha_TooFew : PySem.W.findIn K (.ref C_TooFew) "__class__" = some (some (.builtin "object.__class__")))
  (hm_TooFew : PySem.W.mroIn K C_TooFew (.type "object") = some true)
  (x_TooFeww_initw : K.lookup C_TooFew = some (excClassObj nm_TooFeww_initw qn_TooFeww_initw C_TooFew Nn_TooFeww_initw bs_TooFeww_initw [(.ref C_StepError), (.type "ValueError"), (.type "Exception"), (.type "BaseException"), (.type "object")] true sn_TooFeww_initw sub_TooFeww_initw ab_TooFeww_initw col_TooFeww_initw dd_TooFeww_initw k0_TooFeww_initw k1_TooFeww_initw k2_TooFeww_initw k3_TooFeww_initw k5_TooFeww_initw "ValueError.__new__"))
  (rv_TooFeww_initw : PySem.HandSPX.refsVE [(.ref C_StepError), (.type "ValueError"), (.type "Exception"), (.type "BaseException"), (.type "object")] = true)
  (i_TooFeww_initw : PySem.W.findIn K (.ref C_TooFew) "__init__" = some (some (.ref f_TooFeww_initw)))
  (l_TooFeww_initw : K.lookup f_TooFeww_initw = some ⟨oc_TooFeww_initw, od_TooFeww_initw, .func (PySem.W.ksFn "__init__" "TooFew.__init__" (defArgs s_TooFeww_initw) (defBody s_TooFeww_initw) (defScope s_TooFeww_initw) .none .none dc_TooFeww_initw pm_TooFeww_initw an_TooFeww_initw (.ref k_TooFeww_initw) ct_TooFeww_initw c_TooFeww_initw), sl_TooFeww_initw⟩)
  (cd_TooFeww_initw : PySem.W.codeIn K (.ref k_TooFeww_initw) "TooFew.__init__" = true)
  (kc_TooFeww_initw : K.lookup k_TooFeww_initw = some ⟨ccl_TooFeww_initw, cdd_TooFeww_initw, .fields vs_TooFeww_initw, ccs_TooFeww_initw⟩)
  (kv_TooFeww_initw : vs_TooFeww_initw[2]? = some (.str file_TooFeww_initw tf_TooFeww_initw))
  (kf_TooFeww_initw : (P.main.file == file_TooFeww_initw) = true)
  (cc_TooFeww_initw : K.lookup c_TooFeww_initw = some ⟨cl_TooFeww_initw, cld_TooFeww_initw, .cell (some (.ref C_TooFew)), csl_TooFeww_initw⟩)
  (kp_TooFeww_initw : PySem.W.keepIn K (.ref f_TooFeww_initw) = true)
  (ti_TooFeww_initw : PySem.W.typeIn K (.ref f_TooFeww_initw) = some (.type "function"))
  (ic_TooFeww_initw : PySem.W.isClsIn K C_TooFew = true)
  (sa_TooFeww_initw : PySem.W.findIn K (.ref C_TooFew) "__setattr__" = some (some (.builtin "object.__setattr__")))
  (ty_TooFeww_initw : PySem.W.typeIn K (.ref C_TooFew) = some (.type "type"))
  (ke_TooFeww_initw : PySem.W.keepIn K (.ref C_TooFew) = true)
  (su_TooFeww_initw : PySem.W.ks_superIn K C_TooFew C_TooFew "__init__" = some (some (.builtin "ValueError.__init__")))
  (ve_TooFeww_initw : PySem.W.subIn K (.ref C_TooFew) (.type "ValueError") = some true)
  (mr_TooFeww_initw : PySem.W.mroIn K C_TooFew (.ref C_TooFew) = some true)
  (nf_TooFew_needed : PySem.W.findIn K (.ref C_TooFew) "needed" = some none)
  (m_World : PySem.W.nsIn K mainGlobals "World" = some (some (.ref C_World)))
  (pg_World : PySem.W.plainGet K C_World Str.empty = true)
  (hd_World : PySem.W.hasDictIn K C_World = true)
  (po_World : PySem.W.plainOver K C_World = true)
  (sa_World : PySem.W.findIn K (.ref C_World) "__setattr__" = some (some (.builtin "object.__setattr__")))
  (ha_World : PySem.W.findIn K (.ref C_World) "__class__" = some (some (.builtin "object.__class__")))
  (hm_World : PySem.W.mroIn K C_World (.type "object") = some true)
  (na_World_size : PySem.W.findIn K (.ref C_World) "size" = some none)
  (m_Colours : PySem.W.nsIn K mainGlobals "Colours" = some (some (.ref C_Colours)))
  (pg_Colours : PySem.W.plainGet K C_Colours Str.empty = true)
  (hd_Colours : PySem.W.hasDictIn K C_Colours = true)
  (po_Colours : PySem.W.plainOver K C_Colours = true)
  (sa_Colours : PySem.W.findIn K (.ref C_Colours) "__setattr__" = some (some (.builtin "object.__setattr__")))
  (ha_Colours : PySem.W.findIn K (.ref C_Colours) "__class__" = some (some (.builtin "object.__class__")))
  (hm_Colours : PySem.W.mroIn K C_Colours (.type "object") = some true)
  (na_Colours_web : PySem.W.findIn K (.ref C_Colours) "web" = some none)
  (na_Colours_colours : PySem.W.findIn K (.ref C_Colours) "colours" = some none)
  (na_Colours_size : PySem.W.findIn K (.ref C_Colours) "size" = some none)
  (m_Row : PySem.W.nsIn K mainGlobals "Row" = some (some (.ref C_Row)))
  (pg_Row : PySem.W.plainGet K C_Row Str.empty = true)
  (hd_Row : PySem.W.hasDictIn K C_Row = true)
  (po_Row : PySem.W.plainOver K C_Row = true)
  (sa_Row : PySem.W.findIn K (.ref C_Row) "__setattr__" = some (some (.builtin "object.__setattr__")))
  (ha_Row : PySem.W.findIn K (.ref C_Row) "__class__" = some (some (.builtin "object.__class__")))
  (hm_Row : PySem.W.mroIn K C_Row (.type "object") = some true)
  (na_Row_settings : PySem.W.findIn K (.ref C_Row) "settings" = some none)
  (m_Web : PySem.W.nsIn K mainGlobals "Web" = some (some (.ref C_Web)))
  (pg_Web : PySem.W.plainGet K C_Web Str.empty = true)
  (hd_Web : PySem.W.hasDictIn K C_Web = true)
  (po_Web : PySem.W.plainOver K C_Web = true)
  (sa_Web : PySem.W.findIn K (.ref C_Web) "__setattr__" = some (some (.builtin "object.__setattr__")))
  (ha_Web : PySem.W.findIn K (.ref C_Web) "__class__" = some (some (.builtin "object.__class__")))
  (hm_Web : PySem.W.mroIn K C_Web (.type "object") = some true)
  (na_Web_places : PySem.W.findIn K (.ref C_Web) "places" = some none)
  (na_Web_ties : PySem.W.findIn K (.ref C_Web) "ties" = some none)
  (na_Web_near : PySem.W.findIn K (.ref C_Web) "near" = some none)
  (m_with_value : PySem.W.nsIn K mainGlobals "with_value" = some (some (.ref f_with_value)))
  (l_with_value : K.lookup f_with_value = some ⟨oc_with_value, od_with_value, .func (PySem.W.fnOf "with_value" "with_value" (defArgs s_with_value) (defBody s_with_value) (defScope s_with_value) .none kV_with_value dc_with_value pm_with_value an_with_value cd_with_value ct_with_value), sl_with_value⟩)
  (c_with_value : PySem.W.codeIn K cd_with_value "with_value" = true)
  (k_with_value : PySem.W.keepIn K (.ref f_with_value) = true)
  (me_Worldw_initw : PySem.W.findIn K (.ref C_World) "__init__" = some (some (.ref f_Worldw_initw)))
  (l_Worldw_initw : K.lookup f_Worldw_initw = some ⟨oc_Worldw_initw, od_Worldw_initw, .func (PySem.W.fnOf "__init__" "World.__init__" (defArgs s_Worldw_initw) (defBody s_Worldw_initw) (defScope s_Worldw_initw) .none kV_Worldw_initw dc_Worldw_initw pm_Worldw_initw an_Worldw_initw cd_Worldw_initw ct_Worldw_initw), sl_Worldw_initw⟩)
  (c_Worldw_initw : PySem.W.codeIn K cd_Worldw_initw "World.__init__" = true)
  (k_Worldw_initw : PySem.W.keepIn K (.ref f_Worldw_initw) = true)
  (fn_Worldw_initw : PySem.W.isFn K (.ref f_Worldw_initw) = true)
  (mk_World : PySem.W.makesIn K C_World = true)
  (kc_World : PySem.W.keepIn K (.ref C_World) = true)
  (me_World_is_answer : PySem.W.findIn K (.ref C_World) "is_answer" = some (some (.ref f_World_is_answer)))
  (l_World_is_answer : K.lookup f_World_is_answer = some ⟨oc_World_is_answer, od_World_is_answer, .func (PySem.W.fnOf "is_answer" "World.is_answer" (defArgs s_World_is_answer) (defBody s_World_is_answer) (defScope s_World_is_answer) .none kV_World_is_answer dc_World_is_answer pm_World_is_answer an_World_is_answer cd_World_is_answer ct_World_is_answer), sl_World_is_answer⟩)
  (c_World_is_answer : PySem.W.codeIn K cd_World_is_answer "World.is_answer" = true)
  (k_World_is_answer : PySem.W.keepIn K (.ref f_World_is_answer) = true)
  (fn_World_is_answer : PySem.W.isFn K (.ref f_World_is_answer) = true)
  (me_World_next_answers : PySem.W.findIn K (.ref C_World) "next_answers" = some (some (.ref f_World_next_answers)))
  (l_World_next_answers : K.lookup f_World_next_answers = some ⟨oc_World_next_answers, od_World_next_answers, .func (PySem.W.fnOf "next_answers" "World.next_answers" (defArgs s_World_next_answers) (defBody s_World_next_answers) (defScope s_World_next_answers) .none kV_World_next_answers dc_World_next_answers pm_World_next_answers an_World_next_answers cd_World_next_answers ct_World_next_answers), sl_World_next_answers⟩)
  (c_World_next_answers : PySem.W.codeIn K cd_World_next_answers "World.next_answers" = true)
  (k_World_next_answers : PySem.W.keepIn K (.ref f_World_next_answers) = true)
  (fn_World_next_answers : PySem.W.isFn K (.ref f_World_next_answers) = true)
  (m_check_answer : PySem.W.nsIn K mainGlobals "check_answer" = some (some (.ref f_check_answer)))
  (l_check_answer : K.lookup f_check_answer = some ⟨oc_check_answer, od_check_answer, .func (PySem.W.fnOf "check_answer" "check_answer" (defArgs s_check_answer) (defBody s_check_answer) (defScope s_check_answer) .none kV_check_answer dc_check_answer pm_check_answer an_check_answer cd_check_answer ct_check_answer), sl_check_answer⟩)
  (c_check_answer : PySem.W.codeIn K cd_check_answer "check_answer" = true)
  (k_check_answer : PySem.W.keepIn K (.ref f_check_answer) = true)
  (me_Coloursw_initw : PySem.W.findIn K (.ref C_Colours) "__init__" = some (some (.ref f_Coloursw_initw)))
  (fn_Coloursw_initw : PySem.W.isFn K (.ref f_Coloursw_initw) = true)
  (mk_Colours : PySem.W.makesIn K C_Colours = true)
  (kc_Colours : PySem.W.keepIn K (.ref C_Colours) = true)
  (l_Coloursw_initw : K.lookup f_Coloursw_initw = some ⟨oc_Coloursw_initw, od_Coloursw_initw, .func (PySem.W.ksFn "__init__" "Colours.__init__" (defArgs s_Coloursw_initw) (defBody s_Coloursw_initw) (defScope s_Coloursw_initw) .none .none dc_Coloursw_initw pm_Coloursw_initw an_Coloursw_initw (.ref k_Coloursw_initw) ct_Coloursw_initw c_Coloursw_initw), sl_Coloursw_initw⟩)
  (cd_Coloursw_initw : PySem.W.codeIn K (.ref k_Coloursw_initw) "Colours.__init__" = true)
  (kd_Coloursw_initw : K.lookup k_Coloursw_initw = some ⟨ccl_Coloursw_initw, cdd_Coloursw_initw, .fields vs_Coloursw_initw, ccs_Coloursw_initw⟩)
  (kv_Coloursw_initw : vs_Coloursw_initw[2]? = some (.str file_Coloursw_initw tf_Coloursw_initw))
  (kf_Coloursw_initw : (P.main.file == file_Coloursw_initw) = true)
  (cc_Coloursw_initw : K.lookup c_Coloursw_initw = some ⟨cl_Coloursw_initw, cld_Coloursw_initw, .cell (some (.ref C_Colours)), csl_Coloursw_initw⟩)
  (kp_Coloursw_initw : PySem.W.keepIn K (.ref f_Coloursw_initw) = true)
  (ic_Coloursw_initw : PySem.W.isClsIn K C_Colours = true)
  (su_Coloursw_initw : PySem.W.ks_superIn K C_Colours C_Colours "__init__" = some (some (.ref f_Worldw_initw)))
  (tb_Coloursw_initw : PySem.W.typeIn K (.ref f_Worldw_initw) = some (.type "function"))
  (mr_Coloursw_initw : PySem.W.mroIn K C_Colours (.ref C_Colours) = some true)
  (fi_Coloursw_initw : PySem.W.fnIn K f_Worldw_initw = true)
  (me_Colours_is_answer : PySem.W.findIn K (.ref C_Colours) "is_answer" = some (some (.ref f_Colours_is_answer)))
  (l_Colours_is_answer : K.lookup f_Colours_is_answer = some ⟨oc_Colours_is_answer, od_Colours_is_answer, .func (PySem.W.fnOf "is_answer" "Colours.is_answer" (defArgs s_Colours_is_answer) (defBody s_Colours_is_answer) (defScope s_Colours_is_answer) .none kV_Colours_is_answer dc_Colours_is_answer pm_Colours_is_answer an_Colours_is_answer cd_Colours_is_answer ct_Colours_is_answer), sl_Colours_is_answer⟩)
  (c_Colours_is_answer : PySem.W.codeIn K cd_Colours_is_answer "Colours.is_answer" = true)
  (k_Colours_is_answer : PySem.W.keepIn K (.ref f_Colours_is_answer) = true)
  (fn_Colours_is_answer : PySem.W.isFn K (.ref f_Colours_is_answer) = true)
  (me_Colours_next_answers : PySem.W.findIn K (.ref C_Colours) "next_answers" = some (some (.ref f_Colours_next_answers)))
  (l_Colours_next_answers : K.lookup f_Colours_next_answers = some ⟨oc_Colours_next_answers, od_Colours_next_answers, .func (PySem.W.fnOf "next_answers" "Colours.next_answers" (defArgs s_Colours_next_answers) (defBody s_Colours_next_answers) (defScope s_Colours_next_answers) .none kV_Colours_next_answers dc_Colours_next_answers pm_Colours_next_answers an_Colours_next_answers cd_Colours_next_answers ct_Colours_next_answers), sl_Colours_next_answers⟩)
  (c_Colours_next_answers : PySem.W.codeIn K cd_Colours_next_answers "Colours.next_answers" = true)
  (k_Colours_next_answers : PySem.W.keepIn K (.ref f_Colours_next_answers) = true)
  (fn_Colours_next_answers : PySem.W.isFn K (.ref f_Colours_next_answers) = true)
  (me_Roww_initw : PySem.W.findIn K (.ref C_Row) "__init__" = some (some (.ref f_Roww_initw)))
  (l_Roww_initw : K.lookup f_Roww_initw = some ⟨oc_Roww_initw, od_Roww_initw, .func (PySem.W.fnOf "__init__" "Row.__init__" (defArgs s_Roww_initw) (defBody s_Roww_initw) (defScope s_Roww_initw) .none kV_Roww_initw dc_Roww_initw pm_Roww_initw an_Roww_initw cd_Roww_initw ct_Roww_initw), sl_Roww_initw⟩)
  (c_Roww_initw : PySem.W.codeIn K cd_Roww_initw "Row.__init__" = true)
  (k_Roww_initw : PySem.W.keepIn K (.ref f_Roww_initw) = true)
  (fn_Roww_initw : PySem.W.isFn K (.ref f_Roww_initw) = true)
  (mk_Row : PySem.W.makesIn K C_Row = true)
  (kc_Row : PySem.W.keepIn K (.ref C_Row) = true)
  (pa_Row_start : PySem.W.findIn K (.ref C_Row) "start" = some (some (.ref p_Row_start)))
  (pr_Row_start : PySem.W.recIn K p_Row_start "property" = some (.ref f_Row_start :: pr_Row_start))
  (pt_Row_start : PySem.W.specialIn K (.ref p_Row_start) "__get__" = some (some (.builtin "property.__get__")))
  (pk_Row_start : PySem.W.takesIn K (.ref p_Row_start) = some true)
  (l_Row_start : K.lookup f_Row_start = some ⟨oc_Row_start, od_Row_start, .func (PySem.W.fnOf "start" "Row.start" (defArgs s_Row_start) (defBody s_Row_start) (defScope s_Row_start) .none kV_Row_start dc_Row_start pm_Row_start an_Row_start cd_Row_start ct_Row_start), sl_Row_start⟩)
  (c_Row_start : PySem.W.codeIn K cd_Row_start "Row.start" = true)
  (k_Row_start : PySem.W.keepIn K (.ref f_Row_start) = true)
  (pa_Row_goal : PySem.W.findIn K (.ref C_Row) "goal" = some (some (.ref p_Row_goal)))
  (pr_Row_goal : PySem.W.recIn K p_Row_goal "property" = some (.ref f_Row_goal :: pr_Row_goal))
  (pt_Row_goal : PySem.W.specialIn K (.ref p_Row_goal) "__get__" = some (some (.builtin "property.__get__")))
  (pk_Row_goal : PySem.W.takesIn K (.ref p_Row_goal) = some true)
  (l_Row_goal : K.lookup f_Row_goal = some ⟨oc_Row_goal, od_Row_goal, .func (PySem.W.fnOf "goal" "Row.goal" (defArgs s_Row_goal) (defBody s_Row_goal) (defScope s_Row_goal) .none kV_Row_goal dc_Row_goal pm_Row_goal an_Row_goal cd_Row_goal ct_Row_goal), sl_Row_goal⟩)
  (c_Row_goal : PySem.W.codeIn K cd_Row_goal "Row.goal" = true)
  (k_Row_goal : PySem.W.keepIn K (.ref f_Row_goal) = true)
  (pa_Row_steps : PySem.W.findIn K (.ref C_Row) "steps" = some (some (.ref p_Row_steps)))
  (pr_Row_steps : PySem.W.recIn K p_Row_steps "property" = some (.ref f_Row_steps :: pr_Row_steps))
  (pt_Row_steps : PySem.W.specialIn K (.ref p_Row_steps) "__get__" = some (some (.builtin "property.__get__")))
  (pk_Row_steps : PySem.W.takesIn K (.ref p_Row_steps) = some true)
  (l_Row_steps : K.lookup f_Row_steps = some ⟨oc_Row_steps, od_Row_steps, .func (PySem.W.fnOf "steps" "Row.steps" (defArgs s_Row_steps) (defBody s_Row_steps) (defScope s_Row_steps) .none kV_Row_steps dc_Row_steps pm_Row_steps an_Row_steps cd_Row_steps ct_Row_steps), sl_Row_steps⟩)
  (c_Row_steps : PySem.W.codeIn K cd_Row_steps "Row.steps" = true)
  (k_Row_steps : PySem.W.keepIn K (.ref f_Row_steps) = true)
  (me_Roww_addw : PySem.W.findIn K (.ref C_Row) "__add__" = some (some (.ref f_Roww_addw)))
  (l_Roww_addw : K.lookup f_Roww_addw = some ⟨oc_Roww_addw, od_Roww_addw, .func (PySem.W.fnOf "__add__" "Row.__add__" (defArgs s_Roww_addw) (defBody s_Roww_addw) (defScope s_Roww_addw) .none kV_Roww_addw dc_Roww_addw pm_Roww_addw an_Roww_addw cd_Roww_addw ct_Roww_addw), sl_Roww_addw⟩)
  (c_Roww_addw : PySem.W.codeIn K cd_Roww_addw "Row.__add__" = true)
  (k_Roww_addw : PySem.W.keepIn K (.ref f_Roww_addw) = true)
  (fn_Roww_addw : PySem.W.isFn K (.ref f_Roww_addw) = true)
  (sf_Row : PySem.W.selfFirst K C_Row = true)
  (me_Roww_iterw : PySem.W.findIn K (.ref C_Row) "__iter__" = some (some (.ref f_Roww_iterw)))
  (l_Roww_iterw : K.lookup f_Roww_iterw = some ⟨oc_Roww_iterw, od_Roww_iterw, .func (PySem.W.fnOf "__iter__" "Row.__iter__" (defArgs s_Roww_iterw) (defBody s_Roww_iterw) (defScope s_Roww_iterw) .none kV_Roww_iterw dc_Roww_iterw pm_Roww_iterw an_Roww_iterw cd_Roww_iterw ct_Roww_iterw), sl_Roww_iterw⟩)
  (c_Roww_iterw : PySem.W.codeIn K cd_Roww_iterw "Row.__iter__" = true)
  (k_Roww_iterw : PySem.W.keepIn K (.ref f_Roww_iterw) = true)
  (fn_Roww_iterw : PySem.W.isFn K (.ref f_Roww_iterw) = true)
  (me_Webw_initw : PySem.W.findIn K (.ref C_Web) "__init__" = some (some (.ref f_Webw_initw)))
  (l_Webw_initw : K.lookup f_Webw_initw = some ⟨oc_Webw_initw, od_Webw_initw, .func (PySem.W.fnOf "__init__" "Web.__init__" (defArgs s_Webw_initw) (defBody s_Webw_initw) (defScope s_Webw_initw) .none kV_Webw_initw dc_Webw_initw pm_Webw_initw an_Webw_initw cd_Webw_initw ct_Webw_initw), sl_Webw_initw⟩)
  (c_Webw_initw : PySem.W.codeIn K cd_Webw_initw "Web.__init__" = true)
  (k_Webw_initw : PySem.W.keepIn K (.ref f_Webw_initw) = true)
  (fn_Webw_initw : PySem.W.isFn K (.ref f_Webw_initw) = true)
  (mk_Web : PySem.W.makesIn K C_Web = true)
  (kc_Web : PySem.W.keepIn K (.ref C_Web) = true)
  (me_Web_tied : PySem.W.findIn K (.ref C_Web) "tied" = some (some (.ref f_Web_tied)))
  (l_Web_tied : K.lookup f_Web_tied = some ⟨oc_Web_tied, od_Web_tied, .func (PySem.W.fnOf "tied" "Web.tied" (defArgs s_Web_tied) (defBody s_Web_tied) (defScope s_Web_tied) .none kV_Web_tied dc_Web_tied pm_Web_tied an_Web_tied cd_Web_tied ct_Web_tied), sl_Web_tied⟩)
  (c_Web_tied : PySem.W.codeIn K cd_Web_tied "Web.tied" = true)
  (k_Web_tied : PySem.W.keepIn K (.ref f_Web_tied) = true)
  (fn_Web_tied : PySem.W.isFn K (.ref f_Web_tied) = true)
  (m_most_beside : PySem.W.nsIn K mainGlobals "most_beside" = some (some (.ref f_most_beside)))
  (l_most_beside : K.lookup f_most_beside = some ⟨oc_most_beside, od_most_beside, .func (PySem.W.fnOf "most_beside" "most_beside" (defArgs s_most_beside) (defBody s_most_beside) (defScope s_most_beside) .none kV_most_beside dc_most_beside pm_most_beside an_most_beside cd_most_beside ct_most_beside), sl_most_beside⟩)
  (c_most_beside : PySem.W.codeIn K cd_most_beside "most_beside" = true)
  (k_most_beside : PySem.W.keepIn K (.ref f_most_beside) = true)
  (m_spare_colour : PySem.W.nsIn K mainGlobals "spare_colour" = some (some (.ref f_spare_colour)))
  (l_spare_colour : K.lookup f_spare_colour = some ⟨oc_spare_colour, od_spare_colour, .func (PySem.W.fnOf "spare_colour" "spare_colour" (defArgs s_spare_colour) (defBody s_spare_colour) (defScope s_spare_colour) .none kV_spare_colour dc_spare_colour pm_spare_colour an_spare_colour cd_spare_colour ct_spare_colour), sl_spare_colour⟩)
  (c_spare_colour : PySem.W.codeIn K cd_spare_colour "spare_colour" = true)
  (k_spare_colour : PySem.W.keepIn K (.ref f_spare_colour) = true)
  (m_lead_many : PySem.W.nsIn K mainGlobals "lead_many" = some (some (.ref f_lead_many)))
  (l_lead_many : K.lookup f_lead_many = some ⟨oc_lead_many, od_lead_many, .func (PySem.W.fnOf "lead_many" "lead_many" (defArgs s_lead_many) (defBody s_lead_many) (defScope s_lead_many) .none kV_lead_many dc_lead_many pm_lead_many an_lead_many cd_lead_many ct_lead_many), sl_lead_many⟩)
  (c_lead_many : PySem.W.codeIn K cd_lead_many "lead_many" = true)
  (k_lead_many : PySem.W.keepIn K (.ref f_lead_many) = true)
  (m_frozen_pairs : PySem.W.nsIn K mainGlobals "frozen_pairs" = some (some (.ref f_frozen_pairs)))
  (l_frozen_pairs : K.lookup f_frozen_pairs = some ⟨oc_frozen_pairs, od_frozen_pairs, .func (PySem.W.fnOf "frozen_pairs" "frozen_pairs" (defArgs s_frozen_pairs) (defBody s_frozen_pairs) (defScope s_frozen_pairs) .none kV_frozen_pairs dc_frozen_pairs pm_frozen_pairs an_frozen_pairs cd_frozen_pairs ct_frozen_pairs), sl_frozen_pairs⟩)
  (c_frozen_pairs : PySem.W.codeIn K cd_frozen_pairs "frozen_pairs" = true)
  (k_frozen_pairs : PySem.W.keepIn K (.ref f_frozen_pairs) = true)
  (m__law_cell : PySem.W.nsIn K mainGlobals "_law_cell" = some (some (.ref f_law_cell)))
  (l_law_cell : K.lookup f_law_cell = some ⟨oc_law_cell, od_law_cell, .func (PySem.W.fnOf "_law_cell" "_law_cell" (defArgs s_law_cell) (defBody s_law_cell) (defScope s_law_cell) .none kV_law_cell dc_law_cell pm_law_cell an_law_cell cd_law_cell ct_law_cell), sl_law_cell⟩)
  (c_law_cell : PySem.W.codeIn K cd_law_cell "_law_cell" = true)
  (k_law_cell : PySem.W.keepIn K (.ref f_law_cell) = true)
  (m__law_draw : PySem.W.nsIn K mainGlobals "_law_draw" = some (some (.ref f_law_draw)))
  (l_law_draw : K.lookup f_law_draw = some ⟨oc_law_draw, od_law_draw, .func (PySem.W.fnOf "_law_draw" "_law_draw" (defArgs s_law_draw) (defBody s_law_draw) (defScope s_law_draw) .none kV_law_draw dc_law_draw pm_law_draw an_law_draw cd_law_draw ct_law_draw), sl_law_draw⟩)
  (c_law_draw : PySem.W.codeIn K cd_law_draw "_law_draw" = true)
  (k_law_draw : PySem.W.keepIn K (.ref f_law_draw) = true)
  (m__law_int : PySem.W.nsIn K mainGlobals "_law_int" = some (some (.ref f_law_int)))
  (l_law_int : K.lookup f_law_int = some ⟨oc_law_int, od_law_int, .func (PySem.W.fnOf "_law_int" "_law_int" (defArgs s_law_int) (defBody s_law_int) (defScope s_law_int) .none kV_law_int dc_law_int pm_law_int an_law_int cd_law_int ct_law_int), sl_law_int⟩)
  (c_law_int : PySem.W.codeIn K cd_law_int "_law_int" = true)
  (k_law_int : PySem.W.keepIn K (.ref f_law_int) = true)
  (m__law_tuple : PySem.W.nsIn K mainGlobals "_law_tuple" = some (some (.ref f_law_tuple)))
  (l_law_tuple : K.lookup f_law_tuple = some ⟨oc_law_tuple, od_law_tuple, .func (PySem.W.fnOf "_law_tuple" "_law_tuple" (defArgs s_law_tuple) (defBody s_law_tuple) (defScope s_law_tuple) .none kV_law_tuple dc_law_tuple pm_law_tuple an_law_tuple cd_law_tuple ct_law_tuple), sl_law_tuple⟩)
  (c_law_tuple : PySem.W.codeIn K cd_law_tuple "_law_tuple" = true)
  (k_law_tuple : PySem.W.keepIn K (.ref f_law_tuple) = true)
  (m__law_beside : PySem.W.nsIn K mainGlobals "_law_beside" = some (some (.ref f_law_beside)))
  (l_law_beside : K.lookup f_law_beside = some ⟨oc_law_beside, od_law_beside, .func (PySem.W.fnOf "_law_beside" "_law_beside" (defArgs s_law_beside) (defBody s_law_beside) (defScope s_law_beside) .none kV_law_beside dc_law_beside pm_law_beside an_law_beside cd_law_beside ct_law_beside), sl_law_beside⟩)
  (c_law_beside : PySem.W.codeIn K cd_law_beside "_law_beside" = true)
  (k_law_beside : PySem.W.keepIn K (.ref f_law_beside) = true)
  (m__law_ties : PySem.W.nsIn K mainGlobals "_law_ties" = some (some (.ref f_law_ties)))
  (l_law_ties : K.lookup f_law_ties = some ⟨oc_law_ties, od_law_ties, .func (PySem.W.fnOf "_law_ties" "_law_ties" (defArgs s_law_ties) (defBody s_law_ties) (defScope s_law_ties) .none kV_law_ties dc_law_ties pm_law_ties an_law_ties cd_law_ties ct_law_ties), sl_law_ties⟩)
  (c_law_ties : PySem.W.codeIn K cd_law_ties "_law_ties" = true)
  (k_law_ties : PySem.W.keepIn K (.ref f_law_ties) = true)
  (m__law_colouring : PySem.W.nsIn K mainGlobals "_law_colouring" = some (some (.ref f_law_colouring)))
  (l_law_colouring : K.lookup f_law_colouring = some ⟨oc_law_colouring, od_law_colouring, .func (PySem.W.fnOf "_law_colouring" "_law_colouring" (defArgs s_law_colouring) (defBody s_law_colouring) (defScope s_law_colouring) .none kV_law_colouring dc_law_colouring pm_law_colouring an_law_colouring cd_law_colouring ct_law_colouring), sl_law_colouring⟩)
  (c_law_colouring : PySem.W.codeIn K cd_law_colouring "_law_colouring" = true)
  (k_law_colouring : PySem.W.keepIn K (.ref f_law_colouring) = true)
  (m__law_put : PySem.W.nsIn K mainGlobals "_law_put" = some (some (.ref f_law_put)))
  (l_law_put : K.lookup f_law_put = some ⟨oc_law_put, od_law_put, .func (PySem.W.fnOf "_law_put" "_law_put" (defArgs s_law_put) (defBody s_law_put) (defScope s_law_put) .none kV_law_put dc_law_put pm_law_put an_law_put cd_law_put ct_law_put), sl_law_put⟩)
  (c_law_put : PySem.W.codeIn K cd_law_put "_law_put" = true)
  (k_law_put : PySem.W.keepIn K (.ref f_law_put) = true)
  (m__law_spoilt : PySem.W.nsIn K mainGlobals "_law_spoilt" = some (some (.ref f_law_spoilt)))
  (l_law_spoilt : K.lookup f_law_spoilt = some ⟨oc_law_spoilt, od_law_spoilt, .func (PySem.W.fnOf "_law_spoilt" "_law_spoilt" (defArgs s_law_spoilt) (defBody s_law_spoilt) (defScope s_law_spoilt) .none kV_law_spoilt dc_law_spoilt pm_law_spoilt an_law_spoilt cd_law_spoilt ct_law_spoilt), sl_law_spoilt⟩)
  (c_law_spoilt : PySem.W.codeIn K cd_law_spoilt "_law_spoilt" = true)
  (k_law_spoilt : PySem.W.keepIn K (.ref f_law_spoilt) = true)
  (m__law_coloured : PySem.W.nsIn K mainGlobals "_law_coloured" = some (some (.ref f_law_coloured)))
  (l_law_coloured : K.lookup f_law_coloured = some ⟨oc_law_coloured, od_law_coloured, .func (PySem.W.fnOf "_law_coloured" "_law_coloured" (defArgs s_law_coloured) (defBody s_law_coloured) (defScope s_law_coloured) .none kV_law_coloured dc_law_coloured pm_law_coloured an_law_coloured cd_law_coloured ct_law_coloured), sl_law_coloured⟩)
  (c_law_coloured : PySem.W.codeIn K cd_law_coloured "_law_coloured" = true)
  (k_law_coloured : PySem.W.keepIn K (.ref f_law_coloured) = true)
  (m__law_row_stands : PySem.W.nsIn K mainGlobals "_law_row_stands" = some (some (.ref f_law_row_stands)))
  (l_law_row_stands : K.lookup f_law_row_stands = some ⟨oc_law_row_stands, od_law_row_stands, .func (PySem.W.fnOf "_law_row_stands" "_law_row_stands" (defArgs s_law_row_stands) (defBody s_law_row_stands) (defScope s_law_row_stands) .none kV_law_row_stands dc_law_row_stands pm_law_row_stands an_law_row_stands cd_law_row_stands ct_law_row_stands), sl_law_row_stands⟩)
  (c_law_row_stands : PySem.W.codeIn K cd_law_row_stands "_law_row_stands" = true)
  (k_law_row_stands : PySem.W.keepIn K (.ref f_law_row_stands) = true)
  (m__law_refused : PySem.W.nsIn K mainGlobals "_law_refused" = some (some (.ref f_law_refused)))
  (l_law_refused : K.lookup f_law_refused = some ⟨oc_law_refused, od_law_refused, .func (PySem.W.fnOf "_law_refused" "_law_refused" (defArgs s_law_refused) (defBody s_law_refused) (defScope s_law_refused) .none kV_law_refused dc_law_refused pm_law_refused an_law_refused cd_law_refused ct_law_refused), sl_law_refused⟩)
  (c_law_refused : PySem.W.codeIn K cd_law_refused "_law_refused" = true)
  (k_law_refused : PySem.W.keepIn K (.ref f_law_refused) = true)
  (m__law_pairs_refused : PySem.W.nsIn K mainGlobals "_law_pairs_refused" = some (some (.ref f_law_pairs_refused)))
  (l_law_pairs_refused : K.lookup f_law_pairs_refused = some ⟨oc_law_pairs_refused, od_law_pairs_refused, .func (PySem.W.fnOf "_law_pairs_refused" "_law_pairs_refused" (defArgs s_law_pairs_refused) (defBody s_law_pairs_refused) (defScope s_law_pairs_refused) .none kV_law_pairs_refused dc_law_pairs_refused pm_law_pairs_refused an_law_pairs_refused cd_law_pairs_refused ct_law_pairs_refused), sl_law_pairs_refused⟩)
  (c_law_pairs_refused : PySem.W.codeIn K cd_law_pairs_refused "_law_pairs_refused" = true)
  (k_law_pairs_refused : PySem.W.keepIn K (.ref f_law_pairs_refused) = true)
  (m__law_pairs_stand : PySem.W.nsIn K mainGlobals "_law_pairs_stand" = some (some (.ref f_law_pairs_stand)))
  (l_law_pairs_stand : K.lookup f_law_pairs_stand = some ⟨oc_law_pairs_stand, od_law_pairs_stand, .func (PySem.W.fnOf "_law_pairs_stand" "_law_pairs_stand" (defArgs s_law_pairs_stand) (defBody s_law_pairs_stand) (defScope s_law_pairs_stand) .none kV_law_pairs_stand dc_law_pairs_stand pm_law_pairs_stand an_law_pairs_stand cd_law_pairs_stand ct_law_pairs_stand), sl_law_pairs_stand⟩)
  (c_law_pairs_stand : PySem.W.codeIn K cd_law_pairs_stand "_law_pairs_stand" = true)
  (k_law_pairs_stand : PySem.W.keepIn K (.ref f_law_pairs_stand) = true)
  (m_law : PySem.W.nsIn K mainGlobals "law" = some (some (.ref f_law)))
  (l_law : K.lookup f_law = some ⟨oc_law, od_law, .func (PySem.W.fnOf "law" "law" (defArgs s_law) (defBody s_law) (defScope s_law) .none kV_law dc_law pm_law an_law cd_law ct_law), sl_law⟩)
  (c_law : PySem.W.codeIn K cd_law "law" = true)
  (k_law : PySem.W.keepIn K (.ref f_law) = true)
  (cr1_Colours : PySem.W.readsIn K C_Colours (.type "type") = true)
  (cr2_Colours : PySem.W.specialIn K (.ref C_Colours) "__getattribute__" = some (some (.builtin "type.__getattribute__")))
  (cv_Colours_MOST_PLACES : PySem.W.findCls K (.ref C_Colours) (.type "type") "MOST_PLACES" = some (.val (.int 14 t_Colours_MOST_PLACES)))
  (cv_Colours_MOST_COLOURS : PySem.W.findCls K (.ref C_Colours) (.type "type") "MOST_COLOURS" = some (.val (.int 8 t_Colours_MOST_COLOURS)))
  (hcn : PySem.W.specialIn K (.builtin "object.__class__") "__get__" = some (some (.builtin "getset_descriptor.__get__")))
  (hct : PySem.W.takesIn K (.builtin "object.__class__") = some true)
  (hop : PySem.W.nsIn K PySem.cStatics "thirdparty.any" = some none)
  (htop : (P.main.scope.names.lookup ("super" : Str)).isSome = false)
  (kit_Web_Web : PySem.W.kitOne K (.ref C_Web) (.ref C_Web) = some true)
  (kit_Row_Row : PySem.W.kitOne K (.ref C_Row) (.ref C_Row) = some true)
  (kit_BadWorld_TooFew : PySem.W.kitOne K (.ref C_BadWorld) (.ref C_TooFew) = some false)
  (kit_BadWorld_NotAnAnswer : PySem.W.kitOne K (.ref C_BadWorld) (.ref C_NotAnAnswer) = some false)
  (kit_BadWorld_StepError : PySem.W.kitOne K (.ref C_BadWorld) (.ref C_StepError) = some true)
  (kit_BadWorld_ValueError : PySem.W.kitOne K (.ref C_BadWorld) (.type "ValueError") = some true)
  (exm_BadWorld_BadWorld : PySem.W.exmOne K (.ref C_BadWorld) (.ref C_BadWorld) = some true)
  (exm_TooFew_BadWorld : PySem.W.exmOne K (.ref C_TooFew) (.ref C_BadWorld) = some false)
  (exm_TooFew_TooFew : PySem.W.exmOne K (.ref C_TooFew) (.ref C_TooFew) = some true)
  (kit_TooFew_NotAnAnswer : PySem.W.kitOne K (.ref C_TooFew) (.ref C_NotAnAnswer) = some false)
  (kit_TooFew_StepError : PySem.W.kitOne K (.ref C_TooFew) (.ref C_StepError) = some true)
  (kit_TooFew_ValueError : PySem.W.kitOne K (.ref C_TooFew) (.type "ValueError") = some true)
  (exm_NotAnAnswer_BadWorld : PySem.W.exmOne K (.ref C_NotAnAnswer) (.ref C_BadWorld) = some false)
  (exm_NotAnAnswer_TooFew : PySem.W.exmOne K (.ref C_NotAnAnswer) (.ref C_TooFew) = some false)
  (exm_NotAnAnswer_NotAnAnswer : PySem.W.exmOne K (.ref C_NotAnAnswer) (.ref C_NotAnAnswer) = some true)
  (kit_NotAnAnswer_StepError : PySem.W.kitOne K (.ref C_NotAnAnswer) (.ref C_StepError) = some true)
  (kit_NotAnAnswer_ValueError : PySem.W.kitOne K (.ref C_NotAnAnswer) (.type "ValueError") = some true) :
  Txt P K mg ⟨C_StepError, C_BadWeb, f_BadWebw_initw, (PySem.W.ksFn "__init__" "BadWeb.__init__" (defArgs s_BadWebw_initw) (defBody s_BadWebw_initw) (defScope s_BadWebw_initw) .none .none dc_BadWebw_initw pm_BadWebw_initw an_BadWebw_initw (.ref k_BadWebw_initw) ct_BadWebw_initw c_BadWebw_initw), k_BadWebw_initw, c_BadWebw_initw, C_BadWorld, f_BadWorldw_initw, (PySem.W.ksFn "__init__" "BadWorld.__init__" (defArgs s_BadWorldw_initw) (defBody s_BadWorldw_initw) (defScope s_BadWorldw_initw) .none .none dc_BadWorldw_initw pm_BadWorldw_initw an_BadWorldw_initw (.ref k_BadWorldw_initw) ct_BadWorldw_initw c_BadWorldw_initw), k_BadWorldw_initw, c_BadWorldw_initw, C_NotARow, f_NotARoww_initw, (PySem.W.ksFn "__init__" "NotARow.__init__" (defArgs s_NotARoww_initw) (defBody s_NotARoww_initw) (defScope s_NotARoww_initw) .none .none dc_NotARoww_initw pm_NotARoww_initw an_NotARoww_initw (.ref k_NotARoww_initw) ct_NotARoww_initw c_NotARoww_initw), k_NotARoww_initw, c_NotARoww_initw, C_NotAnAnswer, f_NotAnAnswerw_initw, (PySem.W.ksFn "__init__" "NotAnAnswer.__init__" (defArgs s_NotAnAnswerw_initw) (defBody s_NotAnAnswerw_initw) (defScope s_NotAnAnswerw_initw) .none .none dc_NotAnAnswerw_initw pm_NotAnAnswerw_initw an_NotAnAnswerw_initw (.ref k_NotAnAnswerw_initw) ct_NotAnAnswerw_initw c_NotAnAnswerw_initw), k_NotAnAnswerw_initw, c_NotAnAnswerw_initw, C_RowsApart, f_RowsApartw_initw, (PySem.W.ksFn "__init__" "RowsApart.__init__" (defArgs s_RowsApartw_initw) (defBody s_RowsApartw_initw) (defScope s_RowsApartw_initw) .none .none dc_RowsApartw_initw pm_RowsApartw_initw an_RowsApartw_initw (.ref k_RowsApartw_initw) ct_RowsApartw_initw c_RowsApartw_initw), k_RowsApartw_initw, c_RowsApartw_initw, C_TooFew, f_TooFeww_initw, (PySem.W.ksFn "__init__" "TooFew.__init__" (defArgs s_TooFeww_initw) (defBody s_TooFeww_initw) (defScope s_TooFeww_initw) .none .none dc_TooFeww_initw pm_TooFeww_initw an_TooFeww_initw (.ref k_TooFeww_initw) ct_TooFeww_initw c_TooFeww_initw), k_TooFeww_initw, c_TooFeww_initw, C_World, C_Colours, C_Row, C_Web, f_with_value, (PySem.W.fnOf "with_value" "with_value" (defArgs s_with_value) (defBody s_with_value) (defScope s_with_value) .none kV_with_value dc_with_value pm_with_value an_with_value cd_with_value ct_with_value), f_Worldw_initw, (PySem.W.fnOf "__init__" "World.__init__" (defArgs s_Worldw_initw) (defBody s_Worldw_initw) (defScope s_Worldw_initw) .none kV_Worldw_initw dc_Worldw_initw pm_Worldw_initw an_Worldw_initw cd_Worldw_initw ct_Worldw_initw), f_World_is_answer, (PySem.W.fnOf "is_answer" "World.is_answer" (defArgs s_World_is_answer) (defBody s_World_is_answer) (defScope s_World_is_answer) .none kV_World_is_answer dc_World_is_answer pm_World_is_answer an_World_is_answer cd_World_is_answer ct_World_is_answer), f_World_next_answers, (PySem.W.fnOf "next_answers" "World.next_answers" (defArgs s_World_next_answers) (defBody s_World_next_answers) (defScope s_World_next_answers) .none kV_World_next_answers dc_World_next_answers pm_World_next_answers an_World_next_answers cd_World_next_answers ct_World_next_answers), f_check_answer, (PySem.W.fnOf "check_answer" "check_answer" (defArgs s_check_answer) (defBody s_check_answer) (defScope s_check_answer) .none kV_check_answer dc_check_answer pm_check_answer an_check_answer cd_check_answer ct_check_answer), f_Coloursw_initw, (PySem.W.ksFn "__init__" "Colours.__init__" (defArgs s_Coloursw_initw) (defBody s_Coloursw_initw) (defScope s_Coloursw_initw) .none .none dc_Coloursw_initw pm_Coloursw_initw an_Coloursw_initw (.ref k_Coloursw_initw) ct_Coloursw_initw c_Coloursw_initw), k_Coloursw_initw, c_Coloursw_initw, f_Colours_is_answer, (PySem.W.fnOf "is_answer" "Colours.is_answer" (defArgs s_Colours_is_answer) (defBody s_Colours_is_answer) (defScope s_Colours_is_answer) .none kV_Colours_is_answer dc_Colours_is_answer pm_Colours_is_answer an_Colours_is_answer cd_Colours_is_answer ct_Colours_is_answer), f_Colours_next_answers, (PySem.W.fnOf "next_answers" "Colours.next_answers" (defArgs s_Colours_next_answers) (defBody s_Colours_next_answers) (defScope s_Colours_next_answers) .none kV_Colours_next_answers dc_Colours_next_answers pm_Colours_next_answers an_Colours_next_answers cd_Colours_next_answers ct_Colours_next_answers), f_Roww_initw, (PySem.W.fnOf "__init__" "Row.__init__" (defArgs s_Roww_initw) (defBody s_Roww_initw) (defScope s_Roww_initw) .none kV_Roww_initw dc_Roww_initw pm_Roww_initw an_Roww_initw cd_Roww_initw ct_Roww_initw), f_Row_start, (PySem.W.fnOf "start" "Row.start" (defArgs s_Row_start) (defBody s_Row_start) (defScope s_Row_start) .none kV_Row_start dc_Row_start pm_Row_start an_Row_start cd_Row_start ct_Row_start), p_Row_start, f_Row_goal, (PySem.W.fnOf "goal" "Row.goal" (defArgs s_Row_goal) (defBody s_Row_goal) (defScope s_Row_goal) .none kV_Row_goal dc_Row_goal pm_Row_goal an_Row_goal cd_Row_goal ct_Row_goal), p_Row_goal, f_Row_steps, (PySem.W.fnOf "steps" "Row.steps" (defArgs s_Row_steps) (defBody s_Row_steps) (defScope s_Row_steps) .none kV_Row_steps dc_Row_steps pm_Row_steps an_Row_steps cd_Row_steps ct_Row_steps), p_Row_steps, f_Roww_addw, (PySem.W.fnOf "__add__" "Row.__add__" (defArgs s_Roww_addw) (defBody s_Roww_addw) (defScope s_Roww_addw) .none kV_Roww_addw dc_Roww_addw pm_Roww_addw an_Roww_addw cd_Roww_addw ct_Roww_addw), f_Roww_iterw, (PySem.W.fnOf "__iter__" "Row.__iter__" (defArgs s_Roww_iterw) (defBody s_Roww_iterw) (defScope s_Roww_iterw) .none kV_Roww_iterw dc_Roww_iterw pm_Roww_iterw an_Roww_iterw cd_Roww_iterw ct_Roww_iterw), f_Webw_initw, (PySem.W.fnOf "__init__" "Web.__init__" (defArgs s_Webw_initw) (defBody s_Webw_initw) (defScope s_Webw_initw) .none kV_Webw_initw dc_Webw_initw pm_Webw_initw an_Webw_initw cd_Webw_initw ct_Webw_initw), f_Web_tied, (PySem.W.fnOf "tied" "Web.tied" (defArgs s_Web_tied) (defBody s_Web_tied) (defScope s_Web_tied) .none kV_Web_tied dc_Web_tied pm_Web_tied an_Web_tied cd_Web_tied ct_Web_tied), f_most_beside, (PySem.W.fnOf "most_beside" "most_beside" (defArgs s_most_beside) (defBody s_most_beside) (defScope s_most_beside) .none kV_most_beside dc_most_beside pm_most_beside an_most_beside cd_most_beside ct_most_beside), f_spare_colour, (PySem.W.fnOf "spare_colour" "spare_colour" (defArgs s_spare_colour) (defBody s_spare_colour) (defScope s_spare_colour) .none kV_spare_colour dc_spare_colour pm_spare_colour an_spare_colour cd_spare_colour ct_spare_colour), f_lead_many, (PySem.W.fnOf "lead_many" "lead_many" (defArgs s_lead_many) (defBody s_lead_many) (defScope s_lead_many) .none kV_lead_many dc_lead_many pm_lead_many an_lead_many cd_lead_many ct_lead_many), f_frozen_pairs, (PySem.W.fnOf "frozen_pairs" "frozen_pairs" (defArgs s_frozen_pairs) (defBody s_frozen_pairs) (defScope s_frozen_pairs) .none kV_frozen_pairs dc_frozen_pairs pm_frozen_pairs an_frozen_pairs cd_frozen_pairs ct_frozen_pairs), f_law_cell, (PySem.W.fnOf "_law_cell" "_law_cell" (defArgs s_law_cell) (defBody s_law_cell) (defScope s_law_cell) .none kV_law_cell dc_law_cell pm_law_cell an_law_cell cd_law_cell ct_law_cell), f_law_draw, (PySem.W.fnOf "_law_draw" "_law_draw" (defArgs s_law_draw) (defBody s_law_draw) (defScope s_law_draw) .none kV_law_draw dc_law_draw pm_law_draw an_law_draw cd_law_draw ct_law_draw), f_law_int, (PySem.W.fnOf "_law_int" "_law_int" (defArgs s_law_int) (defBody s_law_int) (defScope s_law_int) .none kV_law_int dc_law_int pm_law_int an_law_int cd_law_int ct_law_int), f_law_tuple, (PySem.W.fnOf "_law_tuple" "_law_tuple" (defArgs s_law_tuple) (defBody s_law_tuple) (defScope s_law_tuple) .none kV_law_tuple dc_law_tuple pm_law_tuple an_law_tuple cd_law_tuple ct_law_tuple), f_law_beside, (PySem.W.fnOf "_law_beside" "_law_beside" (defArgs s_law_beside) (defBody s_law_beside) (defScope s_law_beside) .none kV_law_beside dc_law_beside pm_law_beside an_law_beside cd_law_beside ct_law_beside), f_law_ties, (PySem.W.fnOf "_law_ties" "_law_ties" (defArgs s_law_ties) (defBody s_law_ties) (defScope s_law_ties) .none kV_law_ties dc_law_ties pm_law_ties an_law_ties cd_law_ties ct_law_ties), f_law_colouring, (PySem.W.fnOf "_law_colouring" "_law_colouring" (defArgs s_law_colouring) (defBody s_law_colouring) (defScope s_law_colouring) .none kV_law_colouring dc_law_colouring pm_law_colouring an_law_colouring cd_law_colouring ct_law_colouring), f_law_put, (PySem.W.fnOf "_law_put" "_law_put" (defArgs s_law_put) (defBody s_law_put) (defScope s_law_put) .none kV_law_put dc_law_put pm_law_put an_law_put cd_law_put ct_law_put), f_law_spoilt, (PySem.W.fnOf "_law_spoilt" "_law_spoilt" (defArgs s_law_spoilt) (defBody s_law_spoilt) (defScope s_law_spoilt) .none kV_law_spoilt dc_law_spoilt pm_law_spoilt an_law_spoilt cd_law_spoilt ct_law_spoilt), f_law_coloured, (PySem.W.fnOf "_law_coloured" "_law_coloured" (defArgs s_law_coloured) (defBody s_law_coloured) (defScope s_law_coloured) .none kV_law_coloured dc_law_coloured pm_law_coloured an_law_coloured cd_law_coloured ct_law_coloured), f_law_row_stands, (PySem.W.fnOf "_law_row_stands" "_law_row_stands" (defArgs s_law_row_stands) (defBody s_law_row_stands) (defScope s_law_row_stands) .none kV_law_row_stands dc_law_row_stands pm_law_row_stands an_law_row_stands cd_law_row_stands ct_law_row_stands), f_law_refused, (PySem.W.fnOf "_law_refused" "_law_refused" (defArgs s_law_refused) (defBody s_law_refused) (defScope s_law_refused) .none kV_law_refused dc_law_refused pm_law_refused an_law_refused cd_law_refused ct_law_refused), f_law_pairs_refused, (PySem.W.fnOf "_law_pairs_refused" "_law_pairs_refused" (defArgs s_law_pairs_refused) (defBody s_law_pairs_refused) (defScope s_law_pairs_refused) .none kV_law_pairs_refused dc_law_pairs_refused pm_law_pairs_refused an_law_pairs_refused cd_law_pairs_refused ct_law_pairs_refused), f_law_pairs_stand, (PySem.W.fnOf "_law_pairs_stand" "_law_pairs_stand" (defArgs s_law_pairs_stand) (defBody s_law_pairs_stand) (defScope s_law_pairs_stand) .none kV_law_pairs_stand dc_law_pairs_stand pm_law_pairs_stand an_law_pairs_stand cd_law_pairs_stand ct_law_pairs_stand), f_law, (PySem.W.fnOf "law" "law" (defArgs s_law) (defBody s_law) (defScope s_law) .none kV_law dc_law pm_law an_law cd_law ct_law)⟩ := {
    z_ValueError := PySem.W.mg_none_of X G z_ValueError,
    z_all := PySem.W.mg_none_of X G z_all,
    z_bool := PySem.W.mg_none_of X G z_bool,
    z_enumerate := PySem.W.mg_none_of X G z_enumerate,
    z_int := PySem.W.mg_none_of X G z_int,
    z_isinstance := PySem.W.mg_none_of X G z_isinstance,
    z_iter := PySem.W.mg_none_of X G z_iter,
    z_len := PySem.W.mg_none_of X G z_len,
    z_list := PySem.W.mg_none_of X G z_list,
    z_max := PySem.W.mg_none_of X G z_max,
    z_min := PySem.W.mg_none_of X G z_min,
    z_range := PySem.W.mg_none_of X G z_range,
    z_sorted := PySem.W.mg_none_of X G z_sorted,
    z_super := PySem.W.mg_none_of X G z_super,
    z_tuple := PySem.W.mg_none_of X G z_tuple,
    m_MOST_PLACES := ⟨_, PySem.W.mg_of X G m_MOST_PLACES⟩,
    m_MOST_TIES := ⟨_, PySem.W.mg_of X G m_MOST_TIES⟩,
    m_StepError := PySem.W.mg_of X G m_StepError,
    xc_StepError := ⟨hg_StepError, hk_StepError, hs_StepError, hd_StepError, ha_StepError, hcn, hct, hm_StepError⟩,
    xf_StepError := ⟨hg_StepError, hk_StepError, hs_StepError, hd_StepError⟩,
    m_BadWeb := PySem.W.mg_of X G m_BadWeb,
    xc_BadWeb := ⟨hg_BadWeb, hk_BadWeb, hs_BadWeb, hd_BadWeb, ha_BadWeb, hcn, hct, hm_BadWeb⟩,
    xf_BadWeb := ⟨hg_BadWeb, hk_BadWeb, hs_BadWeb, hd_BadWeb⟩,
    F_BadWebw_initw := ⟨⟨_, _, _, _, _, _, _, _, rfl, l_BadWebw_initw, cd_BadWebw_initw⟩, ⟨_, _, _, _, _, _, kc_BadWebw_initw, kv_BadWebw_initw, kf_BadWebw_initw⟩, ⟨_, _, _, cc_BadWebw_initw⟩, ic_BadWebw_initw, PySem.W.mg_none_of X G z_super, htop, ⟨_, rfl, rfl⟩, kp_BadWebw_initw⟩,
    S_BadWebw_initw := ⟨⟨⟨_, _, _, _, _, _, _, _, _, _, _, _, _, _, _, x_BadWebw_initw, rv_BadWebw_initw⟩, sa_BadWebw_initw, hs_BadWeb, ty_BadWebw_initw, ke_BadWebw_initw⟩, su_BadWebw_initw, ve_BadWebw_initw, mr_BadWebw_initw, hop⟩,
    b_BadWebw_initw := Binds.all fun us hl => match us, hl with | [_, _], _ => rfl,
    i_BadWebw_initw := i_BadWebw_initw,
    ti_BadWebw_initw := ti_BadWebw_initw,
    nf_BadWeb_index := nf_BadWeb_index,
    m_BadWorld := PySem.W.mg_of X G m_BadWorld,
    xc_BadWorld := ⟨hg_BadWorld, hk_BadWorld, hs_BadWorld, hd_BadWorld, ha_BadWorld, hcn, hct, hm_BadWorld⟩,
    xf_BadWorld := ⟨hg_BadWorld, hk_BadWorld, hs_BadWorld, hd_BadWorld⟩,
    F_BadWorldw_initw := ⟨⟨_, _, _, _, _, _, _, _, rfl, l_BadWorldw_initw, cd_BadWorldw_initw⟩, ⟨_, _, _, _, _, _, kc_BadWorldw_initw, kv_BadWorldw_initw, kf_BadWorldw_initw⟩, ⟨_, _, _, cc_BadWorldw_initw⟩, ic_BadWorldw_initw, PySem.W.mg_none_of X G z_super, htop, ⟨_, rfl, rfl⟩, kp_BadWorldw_initw⟩,
    S_BadWorldw_initw := ⟨⟨⟨_, _, _, _, _, _, _, _, _, _, _, _, _, _, _, x_BadWorldw_initw, rv_BadWorldw_initw⟩, sa_BadWorldw_initw, hs_BadWorld, ty_BadWorldw_initw, ke_BadWorldw_initw⟩, su_BadWorldw_initw, ve_BadWorldw_initw, mr_BadWorldw_initw, hop⟩,
    b_BadWorldw_initw := Binds.all fun us hl => match us, hl with | [_, _], _ => rfl,
    i_BadWorldw_initw := i_BadWorldw_initw,
    ti_BadWorldw_initw := ti_BadWorldw_initw,
    nf_BadWorld_index := nf_BadWorld_index,
    m_NotARow := PySem.W.mg_of X G m_NotARow,
    xc_NotARow := ⟨hg_NotARow, hk_NotARow, hs_NotARow, hd_NotARow, ha_NotARow, hcn, hct, hm_NotARow⟩,
    xf_NotARow := ⟨hg_NotARow, hk_NotARow, hs_NotARow, hd_NotARow⟩,
    F_NotARoww_initw := ⟨⟨_, _, _, _, _, _, _, _, rfl, l_NotARoww_initw, cd_NotARoww_initw⟩, ⟨_, _, _, _, _, _, kc_NotARoww_initw, kv_NotARoww_initw, kf_NotARoww_initw⟩, ⟨_, _, _, cc_NotARoww_initw⟩, ic_NotARoww_initw, PySem.W.mg_none_of X G z_super, htop, ⟨_, rfl, rfl⟩, kp_NotARoww_initw⟩,
    S_NotARoww_initw := ⟨⟨⟨_, _, _, _, _, _, _, _, _, _, _, _, _, _, _, x_NotARoww_initw, rv_NotARoww_initw⟩, sa_NotARoww_initw, hs_NotARow, ty_NotARoww_initw, ke_NotARoww_initw⟩, su_NotARoww_initw, ve_NotARoww_initw, mr_NotARoww_initw, hop⟩,
    b_NotARoww_initw := Binds.all fun us hl => match us, hl with | [_, _], _ => rfl,
    i_NotARoww_initw := i_NotARoww_initw,
    ti_NotARoww_initw := ti_NotARoww_initw,
    nf_NotARow_index := nf_NotARow_index,
    m_NotAnAnswer := PySem.W.mg_of X G m_NotAnAnswer,
    xc_NotAnAnswer := ⟨hg_NotAnAnswer, hk_NotAnAnswer, hs_NotAnAnswer, hd_NotAnAnswer, ha_NotAnAnswer, hcn, hct, hm_NotAnAnswer⟩,
    xf_NotAnAnswer := ⟨hg_NotAnAnswer, hk_NotAnAnswer, hs_NotAnAnswer, hd_NotAnAnswer⟩,
    F_NotAnAnswerw_initw := ⟨⟨_, _, _, _, _, _, _, _, rfl, l_NotAnAnswerw_initw, cd_NotAnAnswerw_initw⟩, ⟨_, _, _, _, _, _, kc_NotAnAnswerw_initw, kv_NotAnAnswerw_initw, kf_NotAnAnswerw_initw⟩, ⟨_, _, _, cc_NotAnAnswerw_initw⟩, ic_NotAnAnswerw_initw, PySem.W.mg_none_of X G z_super, htop, ⟨_, rfl, rfl⟩, kp_NotAnAnswerw_initw⟩,
    S_NotAnAnswerw_initw := ⟨⟨⟨_, _, _, _, _, _, _, _, _, _, _, _, _, _, _, x_NotAnAnswerw_initw, rv_NotAnAnswerw_initw⟩, sa_NotAnAnswerw_initw, hs_NotAnAnswer, ty_NotAnAnswerw_initw, ke_NotAnAnswerw_initw⟩, su_NotAnAnswerw_initw, ve_NotAnAnswerw_initw, mr_NotAnAnswerw_initw, hop⟩,
    b_NotAnAnswerw_initw := Binds.all fun us hl => match us, hl with | [_, _], _ => rfl,
    i_NotAnAnswerw_initw := i_NotAnAnswerw_initw,
    ti_NotAnAnswerw_initw := ti_NotAnAnswerw_initw,
    nf_NotAnAnswer_setting := nf_NotAnAnswer_setting,
    m_RowsApart := PySem.W.mg_of X G m_RowsApart,
    xc_RowsApart := ⟨hg_RowsApart, hk_RowsApart, hs_RowsApart, hd_RowsApart, ha_RowsApart, hcn, hct, hm_RowsApart⟩,
    xf_RowsApart := ⟨hg_RowsApart, hk_RowsApart, hs_RowsApart, hd_RowsApart⟩,
    F_RowsApartw_initw := ⟨⟨_, _, _, _, _, _, _, _, rfl, l_RowsApartw_initw, cd_RowsApartw_initw⟩, ⟨_, _, _, _, _, _, kc_RowsApartw_initw, kv_RowsApartw_initw, kf_RowsApartw_initw⟩, ⟨_, _, _, cc_RowsApartw_initw⟩, ic_RowsApartw_initw, PySem.W.mg_none_of X G z_super, htop, ⟨_, rfl, rfl⟩, kp_RowsApartw_initw⟩,
    S_RowsApartw_initw := ⟨⟨⟨_, _, _, _, _, _, _, _, _, _, _, _, _, _, _, x_RowsApartw_initw, rv_RowsApartw_initw⟩, sa_RowsApartw_initw, hs_RowsApart, ty_RowsApartw_initw, ke_RowsApartw_initw⟩, su_RowsApartw_initw, ve_RowsApartw_initw, mr_RowsApartw_initw, hop⟩,
    b_RowsApartw_initw := Binds.all fun us hl => match us, hl with | [_, _, _], _ => rfl,
    i_RowsApartw_initw := i_RowsApartw_initw,
    ti_RowsApartw_initw := ti_RowsApartw_initw,
    m_TooFew := PySem.W.mg_of X G m_TooFew,
    xc_TooFew := ⟨hg_TooFew, hk_TooFew, hs_TooFew, hd_TooFew, ha_TooFew, hcn, hct, hm_TooFew⟩,
    xf_TooFew := ⟨hg_TooFew, hk_TooFew, hs_TooFew, hd_TooFew⟩,
    F_TooFeww_initw := ⟨⟨_, _, _, _, _, _, _, _, rfl, l_TooFeww_initw, cd_TooFeww_initw⟩, ⟨_, _, _, _, _, _, kc_TooFeww_initw, kv_TooFeww_initw, kf_TooFeww_initw⟩, ⟨_, _, _, cc_TooFeww_initw⟩, ic_TooFeww_initw, PySem.W.mg_none_of X G z_super, htop, ⟨_, rfl, rfl⟩, kp_TooFeww_initw⟩,
    S_TooFeww_initw := ⟨⟨⟨_, _, _, _, _, _, _, _, _, _, _, _, _, _, _, x_TooFeww_initw, rv_TooFeww_initw⟩, sa_TooFeww_initw, hs_TooFew, ty_TooFeww_initw, ke_TooFeww_initw⟩, su_TooFeww_initw, ve_TooFeww_initw, mr_TooFeww_initw, hop⟩,
    b_TooFeww_initw := Binds.all fun us hl => match us, hl with | [_, _], _ => rfl,
    i_TooFeww_initw := i_TooFeww_initw,
    ti_TooFeww_initw := ti_TooFeww_initw,
    nf_TooFew_needed := nf_TooFew_needed,
    m_World := PySem.W.mg_of X G m_World,
    cl_World := ⟨pg_World, hd_World, po_World, sa_World⟩,
    ty_World := fun H x dx fs e => .base (.ins e ⟨pg_World, hd_World, po_World, sa_World⟩ ha_World hcn hct hm_World),
    na_World_size := na_World_size,
    m_Colours := PySem.W.mg_of X G m_Colours,
    cl_Colours := ⟨pg_Colours, hd_Colours, po_Colours, sa_Colours⟩,
    ty_Colours := fun H x dx fs e => .base (.ins e ⟨pg_Colours, hd_Colours, po_Colours, sa_Colours⟩ ha_Colours hcn hct hm_Colours),
    na_Colours_web := na_Colours_web,
    na_Colours_colours := na_Colours_colours,
    na_Colours_size := na_Colours_size,
    m_Row := PySem.W.mg_of X G m_Row,
    cl_Row := ⟨pg_Row, hd_Row, po_Row, sa_Row⟩,
    ty_Row := fun H x dx fs e => .base (.ins e ⟨pg_Row, hd_Row, po_Row, sa_Row⟩ ha_Row hcn hct hm_Row),
    na_Row_settings := na_Row_settings,
    m_Web := PySem.W.mg_of X G m_Web,
    cl_Web := ⟨pg_Web, hd_Web, po_Web, sa_Web⟩,
    ty_Web := fun H x dx fs e => .base (.ins e ⟨pg_Web, hd_Web, po_Web, sa_Web⟩ ha_Web hcn hct hm_Web),
    na_Web_places := na_Web_places,
    na_Web_ties := na_Web_ties,
    na_Web_near := na_Web_near,
    m_with_value := PySem.W.mg_of X G m_with_value,
    F_with_value := fun_mk (st := s_with_value) l_with_value c_with_value k_with_value,
    b_with_value := (fun_mk (st := s_with_value) l_with_value c_with_value k_with_value).binds (ps := ["setting", "position", "value"]) fun _ _ _ _ _ _ us hl => match us, hl with | [_, _, _], _ => rfl,
    F_Worldw_initw := fun_mk (st := s_Worldw_initw) l_Worldw_initw c_Worldw_initw k_Worldw_initw,
    b_Worldw_initw := (fun_mk (st := s_Worldw_initw) l_Worldw_initw c_Worldw_initw k_Worldw_initw).binds (ps := ["self", "size"]) fun _ _ _ _ _ _ us hl => match us, hl with | [_, _], _ => rfl,
    mk_World := ⟨mk_World, me_Worldw_initw, fn_Worldw_initw, kc_World⟩,
    F_World_is_answer := fun_mk (st := s_World_is_answer) l_World_is_answer c_World_is_answer k_World_is_answer,
    b_World_is_answer := (fun_mk (st := s_World_is_answer) l_World_is_answer c_World_is_answer k_World_is_answer).binds (ps := ["self", "setting"]) fun _ _ _ _ _ _ us hl => match us, hl with | [_, _], _ => rfl,
    me_World_is_answer := ⟨me_World_is_answer, fn_World_is_answer, k_World_is_answer⟩,
    F_World_next_answers := fun_mk (st := s_World_next_answers) l_World_next_answers c_World_next_answers k_World_next_answers,
    b_World_next_answers := (fun_mk (st := s_World_next_answers) l_World_next_answers c_World_next_answers k_World_next_answers).binds (ps := ["self", "setting"]) fun _ _ _ _ _ _ us hl => match us, hl with | [_, _], _ => rfl,
    me_World_next_answers := ⟨me_World_next_answers, fn_World_next_answers, k_World_next_answers⟩,
    m_check_answer := PySem.W.mg_of X G m_check_answer,
    F_check_answer := fun_mk (st := s_check_answer) l_check_answer c_check_answer k_check_answer,
    b_check_answer := (fun_mk (st := s_check_answer) l_check_answer c_check_answer k_check_answer).binds (ps := ["world", "setting"]) fun _ _ _ _ _ _ us hl => match us, hl with | [_, _], _ => rfl,
    mk_Colours := ⟨mk_Colours, me_Coloursw_initw, fn_Coloursw_initw, kc_Colours⟩,
    F_Coloursw_initw := ⟨⟨_, _, _, _, _, _, _, _, rfl, l_Coloursw_initw, cd_Coloursw_initw⟩, ⟨_, _, _, _, _, _, kd_Coloursw_initw, kv_Coloursw_initw, kf_Coloursw_initw⟩, ⟨_, _, _, cc_Coloursw_initw⟩, ic_Coloursw_initw, PySem.W.mg_none_of X G z_super, htop, ⟨_, rfl, rfl⟩, kp_Coloursw_initw⟩,
    S_Coloursw_initw := ⟨su_Coloursw_initw, tb_Coloursw_initw, mr_Coloursw_initw, hop, fi_Coloursw_initw⟩,
    b_Coloursw_initw := Binds.all fun us hl => match us, hl with | [_, _, _], _ => rfl,
    F_Colours_is_answer := fun_mk (st := s_Colours_is_answer) l_Colours_is_answer c_Colours_is_answer k_Colours_is_answer,
    b_Colours_is_answer := (fun_mk (st := s_Colours_is_answer) l_Colours_is_answer c_Colours_is_answer k_Colours_is_answer).binds (ps := ["self", "setting"]) fun _ _ _ _ _ _ us hl => match us, hl with | [_, _], _ => rfl,
    me_Colours_is_answer := ⟨me_Colours_is_answer, fn_Colours_is_answer, k_Colours_is_answer⟩,
    F_Colours_next_answers := fun_mk (st := s_Colours_next_answers) l_Colours_next_answers c_Colours_next_answers k_Colours_next_answers,
    b_Colours_next_answers := (fun_mk (st := s_Colours_next_answers) l_Colours_next_answers c_Colours_next_answers k_Colours_next_answers).binds (ps := ["self", "setting"]) fun _ _ _ _ _ _ us hl => match us, hl with | [_, _], _ => rfl,
    me_Colours_next_answers := ⟨me_Colours_next_answers, fn_Colours_next_answers, k_Colours_next_answers⟩,
    F_Roww_initw := fun_mk (st := s_Roww_initw) l_Roww_initw c_Roww_initw k_Roww_initw,
    b_Roww_initw := (fun_mk (st := s_Roww_initw) l_Roww_initw c_Roww_initw k_Roww_initw).binds (ps := ["self", "settings"]) fun _ _ _ _ _ _ us hl => match us, hl with | [_, _], _ => rfl,
    mk_Row := ⟨mk_Row, me_Roww_initw, fn_Roww_initw, kc_Row⟩,
    p_Row_start := ⟨pa_Row_start, pt_Row_start, pk_Row_start, ⟨_, pr_Row_start⟩⟩,
    F_Row_start := fun_mk (st := s_Row_start) l_Row_start c_Row_start k_Row_start,
    b_Row_start := (fun_mk (st := s_Row_start) l_Row_start c_Row_start k_Row_start).binds (ps := ["self"]) fun _ _ _ _ _ _ us hl => match us, hl with | [_], _ => rfl,
    p_Row_goal := ⟨pa_Row_goal, pt_Row_goal, pk_Row_goal, ⟨_, pr_Row_goal⟩⟩,
    F_Row_goal := fun_mk (st := s_Row_goal) l_Row_goal c_Row_goal k_Row_goal,
    b_Row_goal := (fun_mk (st := s_Row_goal) l_Row_goal c_Row_goal k_Row_goal).binds (ps := ["self"]) fun _ _ _ _ _ _ us hl => match us, hl with | [_], _ => rfl,
    p_Row_steps := ⟨pa_Row_steps, pt_Row_steps, pk_Row_steps, ⟨_, pr_Row_steps⟩⟩,
    F_Row_steps := fun_mk (st := s_Row_steps) l_Row_steps c_Row_steps k_Row_steps,
    b_Row_steps := (fun_mk (st := s_Row_steps) l_Row_steps c_Row_steps k_Row_steps).binds (ps := ["self"]) fun _ _ _ _ _ _ us hl => match us, hl with | [_], _ => rfl,
    F_Roww_addw := fun_mk (st := s_Roww_addw) l_Roww_addw c_Roww_addw k_Roww_addw,
    b_Roww_addw := (fun_mk (st := s_Roww_addw) l_Roww_addw c_Roww_addw k_Roww_addw).binds (ps := ["self", "other"]) fun _ _ _ _ _ _ us hl => match us, hl with | [_, _], _ => rfl,
    op_Roww_addw := ⟨sf_Row, me_Roww_addw, fn_Roww_addw⟩,
    F_Roww_iterw := fun_mk (st := s_Roww_iterw) l_Roww_iterw c_Roww_iterw k_Roww_iterw,
    b_Roww_iterw := (fun_mk (st := s_Roww_iterw) l_Roww_iterw c_Roww_iterw k_Roww_iterw).binds (ps := ["self"]) fun _ _ _ _ _ _ us hl => match us, hl with | [_], _ => rfl,
    oi_Row := ⟨me_Roww_iterw, fn_Roww_iterw⟩,
    F_Webw_initw := fun_mk (st := s_Webw_initw) l_Webw_initw c_Webw_initw k_Webw_initw,
    b_Webw_initw := (fun_mk (st := s_Webw_initw) l_Webw_initw c_Webw_initw k_Webw_initw).binds (ps := ["self", "places", "ties"]) fun _ _ _ _ _ _ us hl => match us, hl with | [_, _, _], _ => rfl,
    mk_Web := ⟨mk_Web, me_Webw_initw, fn_Webw_initw, kc_Web⟩,
    F_Web_tied := fun_mk (st := s_Web_tied) l_Web_tied c_Web_tied k_Web_tied,
    b_Web_tied := (fun_mk (st := s_Web_tied) l_Web_tied c_Web_tied k_Web_tied).binds (ps := ["self", "one", "other"]) fun _ _ _ _ _ _ us hl => match us, hl with | [_, _, _], _ => rfl,
    me_Web_tied := ⟨me_Web_tied, fn_Web_tied, k_Web_tied⟩,
    m_most_beside := PySem.W.mg_of X G m_most_beside,
    F_most_beside := fun_mk (st := s_most_beside) l_most_beside c_most_beside k_most_beside,
    b_most_beside := (fun_mk (st := s_most_beside) l_most_beside c_most_beside k_most_beside).binds (ps := ["web"]) fun _ _ _ _ _ _ us hl => match us, hl with | [_], _ => rfl,
    m_spare_colour := PySem.W.mg_of X G m_spare_colour,
    F_spare_colour := fun_mk (st := s_spare_colour) l_spare_colour c_spare_colour k_spare_colour,
    b_spare_colour := (fun_mk (st := s_spare_colour) l_spare_colour c_spare_colour k_spare_colour).binds (ps := ["web", "colours", "setting", "place", "barred"]) fun _ _ _ _ _ _ us hl => match us, hl with | [_, _, _, _, _], _ => rfl,
    m_lead_many := PySem.W.mg_of X G m_lead_many,
    F_lead_many := fun_mk (st := s_lead_many) l_lead_many c_lead_many k_lead_many,
    b_lead_many := (fun_mk (st := s_lead_many) l_lead_many c_lead_many k_lead_many).binds (ps := ["web", "colours", "start", "goal"]) fun _ _ _ _ _ _ us hl => match us, hl with | [_, _, _, _], _ => rfl,
    m_frozen_pairs := PySem.W.mg_of X G m_frozen_pairs,
    F_frozen_pairs := fun_mk (st := s_frozen_pairs) l_frozen_pairs c_frozen_pairs k_frozen_pairs,
    b_frozen_pairs := (fun_mk (st := s_frozen_pairs) l_frozen_pairs c_frozen_pairs k_frozen_pairs).binds (ps := ["n"]) fun _ _ _ _ _ _ us hl => match us, hl with | [_], _ => rfl,
    m__law_cell := PySem.W.mg_of X G m__law_cell,
    F_law_cell := fun_mk (st := s_law_cell) l_law_cell c_law_cell k_law_cell,
    b_law_cell := (fun_mk (st := s_law_cell) l_law_cell c_law_cell k_law_cell).binds (ps := ["script", "k"]) fun _ _ _ _ _ _ us hl => match us, hl with | [_, _], _ => rfl,
    m__law_draw := PySem.W.mg_of X G m__law_draw,
    F_law_draw := fun_mk (st := s_law_draw) l_law_draw c_law_draw k_law_draw,
    b_law_draw := (fun_mk (st := s_law_draw) l_law_draw c_law_draw k_law_draw).binds (ps := ["cell", "bases"]) fun _ _ _ _ _ _ us hl => match us, hl with | [_, _], _ => rfl,
    m__law_int := PySem.W.mg_of X G m__law_int,
    F_law_int := fun_mk (st := s_law_int) l_law_int c_law_int k_law_int,
    b_law_int := (fun_mk (st := s_law_int) l_law_int c_law_int k_law_int).binds (ps := ["actual", "expected"]) fun _ _ _ _ _ _ us hl => match us, hl with | [_, _], _ => rfl,
    m__law_tuple := PySem.W.mg_of X G m__law_tuple,
    F_law_tuple := fun_mk (st := s_law_tuple) l_law_tuple c_law_tuple k_law_tuple,
    b_law_tuple := (fun_mk (st := s_law_tuple) l_law_tuple c_law_tuple k_law_tuple).binds (ps := ["actual", "expected"]) fun _ _ _ _ _ _ us hl => match us, hl with | [_, _], _ => rfl,
    m__law_beside := PySem.W.mg_of X G m__law_beside,
    F_law_beside := fun_mk (st := s_law_beside) l_law_beside c_law_beside k_law_beside,
    b_law_beside := (fun_mk (st := s_law_beside) l_law_beside c_law_beside k_law_beside).binds (ps := ["place", "ties"]) fun _ _ _ _ _ _ us hl => match us, hl with | [_, _], _ => rfl,
    m__law_ties := PySem.W.mg_of X G m__law_ties,
    F_law_ties := fun_mk (st := s_law_ties) l_law_ties c_law_ties k_law_ties,
    b_law_ties := (fun_mk (st := s_law_ties) l_law_ties c_law_ties k_law_ties).binds (ps := ["cell", "places", "count", "cap"]) fun _ _ _ _ _ _ us hl => match us, hl with | [_, _, _, _], _ => rfl,
    m__law_colouring := PySem.W.mg_of X G m__law_colouring,
    F_law_colouring := fun_mk (st := s_law_colouring) l_law_colouring c_law_colouring k_law_colouring,
    b_law_colouring := (fun_mk (st := s_law_colouring) l_law_colouring c_law_colouring k_law_colouring).binds (ps := ["cell", "places", "ties", "colours"]) fun _ _ _ _ _ _ us hl => match us, hl with | [_, _, _, _], _ => rfl,
    m__law_put := PySem.W.mg_of X G m__law_put,
    F_law_put := fun_mk (st := s_law_put) l_law_put c_law_put k_law_put,
    b_law_put := (fun_mk (st := s_law_put) l_law_put c_law_put k_law_put).binds (ps := ["setting", "at", "value"]) fun _ _ _ _ _ _ us hl => match us, hl with | [_, _, _], _ => rfl,
    m__law_spoilt := PySem.W.mg_of X G m__law_spoilt,
    F_law_spoilt := fun_mk (st := s_law_spoilt) l_law_spoilt c_law_spoilt k_law_spoilt,
    b_law_spoilt := (fun_mk (st := s_law_spoilt) l_law_spoilt c_law_spoilt k_law_spoilt).binds (ps := ["setting", "ties", "colours", "choice", "at"]) fun _ _ _ _ _ _ us hl => match us, hl with | [_, _, _, _, _], _ => rfl,
    m__law_coloured := PySem.W.mg_of X G m__law_coloured,
    F_law_coloured := fun_mk (st := s_law_coloured) l_law_coloured c_law_coloured k_law_coloured,
    b_law_coloured := (fun_mk (st := s_law_coloured) l_law_coloured c_law_coloured k_law_coloured).binds (ps := ["setting", "places", "ties", "colours"]) fun _ _ _ _ _ _ us hl => match us, hl with | [_, _, _, _], _ => rfl,
    m__law_row_stands := PySem.W.mg_of X G m__law_row_stands,
    F_law_row_stands := fun_mk (st := s_law_row_stands) l_law_row_stands c_law_row_stands k_law_row_stands,
    b_law_row_stands := (fun_mk (st := s_law_row_stands) l_law_row_stands c_law_row_stands k_law_row_stands).binds (ps := ["row", "start", "goal", "ties", "colours"]) fun _ _ _ _ _ _ us hl => match us, hl with | [_, _, _, _, _], _ => rfl,
    m__law_refused := PySem.W.mg_of X G m__law_refused,
    F_law_refused := fun_mk (st := s_law_refused) l_law_refused c_law_refused k_law_refused,
    b_law_refused := (fun_mk (st := s_law_refused) l_law_refused c_law_refused k_law_refused).binds (ps := ["web", "colours", "start", "goal", "word", "due"]) fun _ _ _ _ _ _ us hl => match us, hl with | [_, _, _, _, _, _], _ => rfl,
    m__law_pairs_refused := PySem.W.mg_of X G m__law_pairs_refused,
    F_law_pairs_refused := fun_mk (st := s_law_pairs_refused) l_law_pairs_refused c_law_pairs_refused k_law_pairs_refused,
    b_law_pairs_refused := (fun_mk (st := s_law_pairs_refused) l_law_pairs_refused c_law_pairs_refused k_law_pairs_refused).binds (ps := ["n"]) fun _ _ _ _ _ _ us hl => match us, hl with | [_], _ => rfl,
    m__law_pairs_stand := PySem.W.mg_of X G m__law_pairs_stand,
    F_law_pairs_stand := fun_mk (st := s_law_pairs_stand) l_law_pairs_stand c_law_pairs_stand k_law_pairs_stand,
    b_law_pairs_stand := (fun_mk (st := s_law_pairs_stand) l_law_pairs_stand c_law_pairs_stand k_law_pairs_stand).binds (ps := ["n"]) fun _ _ _ _ _ _ us hl => match us, hl with | [_], _ => rfl,
    m_law := PySem.W.mg_of X G m_law,
    F_law := fun_mk (st := s_law) l_law c_law k_law,
    b_law := (fun_mk (st := s_law) l_law c_law k_law).binds (ps := ["script"]) fun _ _ _ _ _ _ us hl => match us, hl with | [_], _ => rfl,
    cr_Colours := ⟨cr1_Colours, cr2_Colours⟩,
    cv_Colours_MOST_PLACES := ⟨_, cv_Colours_MOST_PLACES, ⟨_, rfl⟩⟩,
    cv_Colours_MOST_COLOURS := ⟨_, cv_Colours_MOST_COLOURS, ⟨_, rfl⟩⟩,
    kit_Web_Web := kit_Web_Web,
    kit_Row_Row := kit_Row_Row,
    kit_BadWorld_TooFew := kit_BadWorld_TooFew,
    kit_BadWorld_NotAnAnswer := kit_BadWorld_NotAnAnswer,
    kit_BadWorld_StepError := kit_BadWorld_StepError,
    kit_BadWorld_ValueError := kit_BadWorld_ValueError,
    exm_BadWorld_BadWorld := exm_BadWorld_BadWorld,
    exm_TooFew_BadWorld := exm_TooFew_BadWorld,
    exm_TooFew_TooFew := exm_TooFew_TooFew,
    kit_TooFew_NotAnAnswer := kit_TooFew_NotAnAnswer,
    kit_TooFew_StepError := kit_TooFew_StepError,
    kit_TooFew_ValueError := kit_TooFew_ValueError,
    exm_NotAnAnswer_BadWorld := exm_NotAnAnswer_BadWorld,
    exm_NotAnAnswer_TooFew := exm_NotAnAnswer_TooFew,
    exm_NotAnAnswer_NotAnAnswer := exm_NotAnAnswer_NotAnAnswer,
    kit_NotAnAnswer_StepError := kit_NotAnAnswer_StepError,
    kit_NotAnAnswer_ValueError := kit_NotAnAnswer_ValueError }
set_option Elab.async false
set_option linter.all false
set_option maxRecDepth 100000
set_option maxHeartbeats 4000000
set_option autoImplicit false
open PySem L2 Z
open Evl (Ex)
local macro_rules | `(tactic| walk_at "ex") => `(tactic| first | assumption | exact Evl.Ex.refl _ | (refine Evl.Ex.trans (by assumption) ?_; walk_at "ex"))
local macro_rules | `(tactic| walk_at "side") => `(tactic| first | assumption | ((apply Z.atI_mapE); assumption; rfl) | omega | decide | (exact Or.inl ⟨by omega, by omega⟩) | (exact Or.inr ⟨by omega, by omega⟩) | (with_reducible rfl) | (refine ⟨?_, ?_⟩ <;> walk_at "side") | rfl)
local macro_rules | `(tactic| walk_at "sub") => `(tactic| first | walk_at "ev" | walk_at "side")
local macro_rules | `(tactic| walk_at "ev") => `(tactic| first
  | assumption
  | exact Z.er_int | exact Z.er_bl | exact Z.er_str | exact Z.er_non
  | exact Z.er_vint rfl | exact Z.er_vbl rfl | exact Z.er_vstr rfl
  | ((with_reducible apply Z.ed_var); (exact rfl); assumption; (walk_at "ex"))
  | exact Z.ed_own rfl (by assumption) (by walk_at "ex")
  | ((with_reducible apply Z.er_add) <;> walk_at "sub") | ((with_reducible apply Z.er_sub) <;> walk_at "sub") | ((with_reducible apply Z.er_mul) <;> walk_at "sub")
  | ((with_reducible apply Z.er_fdiv) <;> walk_at "sub") | ((with_reducible apply Z.er_mod) <;> walk_at "sub") | ((with_reducible apply Z.er_pow) <;> walk_at "sub")
  | ((with_reducible apply Z.er_neg) <;> walk_at "sub")
  | ((with_reducible apply Z.er_lt) <;> walk_at "sub") | ((with_reducible apply Z.er_le) <;> walk_at "sub") | ((with_reducible apply Z.er_gt) <;> walk_at "sub") | ((with_reducible apply Z.er_ge) <;> walk_at "sub")
  | ((with_reducible apply Z.er_eqI) <;> walk_at "ev") | ((with_reducible apply Z.er_neI) <;> walk_at "ev")
  | ((with_reducible apply Z.et_test) <;> walk_at "sub") | ((with_reducible apply Z.et_B) <;> walk_at "sub") | ((with_reducible apply Z.et_not) <;> walk_at "sub")
  | ((apply Z.ed_lenL) <;> walk_at "sub") | ((apply Z.ed_lenT) <;> walk_at "sub")
  | ((with_reducible apply Z.er_int1) <;> walk_at "sub")
  | ((with_reducible apply Z.et_orU) <;> walk_at "sub") | ((with_reducible apply Z.et_andU) <;> walk_at "sub")
  | ((with_reducible apply Z.er_andU) <;> walk_at "sub") | ((with_reducible apply Z.er_orU) <;> walk_at "sub") | ((with_reducible apply Z.er_notV) <;> walk_at "sub")
  | ((apply Z.er_isi_intb) <;> walk_at "sub") | ((apply Z.er_isi_int) <;> walk_at "sub") | ((apply Z.ed_isi_list) <;> walk_at "sub") | ((apply Z.ed_isi_tup) <;> walk_at "sub")
  | ((apply Z.ed_ixL) <;> walk_at "sub") | ((apply Z.ed_ixT) <;> walk_at "sub")
  | exact Z.ea_nil | ((with_reducible apply Z.ea_cons) <;> walk_at "sub"))
section
variable {P : Program} {w : World} {K : PySem.W.Frag} {mg : Str → Option Value} {base : Heap} {a : Ad}
def cell2 (ns : List Int) (k : Int) : Int := if k < ns.length then ns.getD k.toNat 0 else if 0 < ns.length then ns.getD (k % ns.length).toNat 0 % 1000003 * 31 + k else k
def spCell (K : PySem.W.Frag) : Sp := sp2 K (fun (_ : List Int) (k : Int) => 0 ≤ k) cell2
theorem ok_law_cell (T : Txt P K mg a) : FnOk P w K mg base CX0 1 a.f_law_cell a.d_law_cell ["script", "k"] (spCell K) := by
  refine T.F_law_cell.ok sc_law_cell len2 (fun cdv A outer s H vs Q E hr h => ⟨_, (pss_cons (ps_if (pt_cmpR op_lt (pv 1) (pe_callB (k_call_len_seq (K := K) rfl) (by rfl) T.z_len (by decide +kernel) (pa_cons (pv 0) pa_nil)) (nomark _))
  (pss_one (ps_ret (pe_callTy call_int1 (by rfl) T.z_int (by decide +kernel) (pa_cons (pe_ix (k_ix_list (K := K) rfl) (pv 0) (pv 1) (fun _ _ => rfl)) pa_nil))))
  pss_nil)
  (pss_cons (ps_if (pt_cmpR op_gt (pe_callB (k_call_len_seq (K := K) rfl) (by rfl) T.z_len (by decide +kernel) (pa_cons (pv 0) pa_nil)) pe_int (nomark _))
  (pss_one (ps_ret (pe_op op_add (pe_op op_mul (pe_op op_mod (pe_callTy call_int1 (by rfl) T.z_int (by decide +kernel) (pa_cons (pe_ix (k_ix_list (K := K) rfl) (pv 0) (pe_op op_mod (pv 1) (pe_callB (k_call_len_seq (K := K) rfl) (by rfl) T.z_len (by decide +kernel) (pa_cons (pv 0) pa_nil))) (fun _ _ => rfl)) pa_nil)) pe_int) pe_int) (pv 1))))
  pss_nil)
  (pss_one (ps_ret (pv 1))))), ?_⟩)
  obtain ⟨v, u, ns, k, rfl, r1, r2, hk, q⟩ := h
  obtain rfl := r2.int
  refine q_if (K := K) (b := decide (k < ns.length)) (by walk_at "ev") (fun hb H1 e1 => ?_) (fun hb H1 e1 => ?_)
  · have hb := of_decide_eq_true hb
    obtain ⟨x, hx, hg⟩ := atI_nn hk hb
    refine s_ret (K := K) (x := x) ?_ (fun v H2 e2 r => q v H2 (e1.trans e2) ?_)
    · refine er_int1 (er_ixL (xs := ns) ?_ ?_ hx) <;> walk_at "ev"
    · rw [show cell2 ns k = x by unfold cell2; rw [if_pos hb, List.getD_eq_getElem?_getD, hg]; rfl]
      exact r
  · have hb := of_decide_eq_false hb
    refine q_if (K := K) (b := decide ((0 : Int) < ns.length)) (by walk_at "ev") (fun hc H2 e2 => ?_) (fun hc H2 e2 => ?_)
    · have hc : (0 : Int) < ns.length := of_decide_eq_true hc
      obtain ⟨x, hx, hg⟩ := atI_nn (xs := ns) (i := k % ns.length) (Int.emod_nonneg _ (by omega)) (Int.emod_lt_of_pos _ hc)
      have m0 := Int.emod_nonneg x (show (1000003 : Int) ≠ 0 by decide)
      have m1 := Int.emod_lt_of_pos x (show (0 : Int) < 1000003 by decide)
      refine s_ret (K := K) (x := x % 1000003 * 31 + k) (er_add (er_mul (i := x % 1000003) ?_ er_int ?_) (er_vint rfl)) (fun v H3 e3 r => q v H3 (e1.trans (e2.trans e3)) ?_)
      · exact er_mod (er_int1 (er_ixL (xs := ns) (er_var rfl r1 (e1.trans e2)) (er_mod (er_vint rfl) (ed_lenL (er_var rfl r1 (e1.trans e2))) hc) hx)) er_int (by decide)
      · walk_at "side"
      rw [show cell2 ns k = x % 1000003 * 31 + k by unfold cell2; rw [if_neg hb, if_pos (by omega), List.getD_eq_getElem?_getD, hg]; rfl]
      exact r
    · have hc := of_decide_eq_false hc
      refine s_ret (K := K) (x := k) (by walk_at "ev") (fun v H3 e3 r => q v H3 (e1.trans (e2.trans e3)) ?_)
      rw [show cell2 ns k = k by unfold cell2; rw [if_neg hb, if_neg (by omega)]]
      exact r
def spDraw (K : PySem.W.Frag) : Sp := sl2 K (fun (_ : Int) (bs : List Int) => (∀ b, b ∈ bs → 0 < b ∧ b < 1073741824) ∧ bs.length ≤ 50000) drw
theorem ok_law_draw (T : Txt P K mg a) : FnOk P w K mg base CX0 1 a.f_law_draw a.d_law_draw ["cell", "bases"] (spDraw K) := by
  refine T.F_law_draw.ok sc_law_draw lel2 (fun cdv A outer s H vs Q E hr h => ⟨_, (pss_cons (ps_set (i := 2) sc_law_draw.nd rfl (Or.inl rfl) (pe_lst pa_nil))
  (pss_cons (ps_set (i := 3) sc_law_draw.nd rfl (Or.inl rfl) (pe_callTy call_int1 (by rfl) T.z_int (by decide +kernel) (pa_cons (pv 0) pa_nil)))
  (pss_cons (ps_if (pt_cmpR op_ge (pv 3) (pe_op op_pow pe_int pe_int) (nomark _))
  (pss_cons (ps_set (i := 3) sc_law_draw.nd rfl (Or.inl rfl) (pe_op op_sub (pv 3) (pe_op op_pow pe_int pe_int)))
  (pss_cons (ps_for PassesOwn.never rfl (k_pi_list (K := K) rfl (pv 1)) (pg_name (i := 4) sc_law_draw.nd rfl (Or.inl rfl))
  (pss_cons (ps_expr (k_pe_bm (K := K) rfl (pe_bm PySem.F.plainAttrs_list PySem.F.slot_list_append PySem.F.type_list_append mt_append (pv 2) (pa_cons (pe_op op_mod (pv 3) (pv 4)) pa_nil))))
  (pss_one (ps_set (i := 3) sc_law_draw.nd rfl (Or.inl rfl) (pe_op op_fdiv (pv 3) (pv 4))))))
  (pss_one (ps_ret (pv 2)))))
  pss_nil)
  (pss_cons (ps_set (i := 5) sc_law_draw.nd rfl (Or.inl rfl) (pe_op op_mod (pv 3) pe_int))
  (pss_cons (ps_for PassesOwn.never rfl (k_pi_list (K := K) rfl (pv 1)) (pg_name (i := 4) sc_law_draw.nd rfl (Or.inl rfl))
  (pss_cons (ps_set (i := 5) sc_law_draw.nd rfl (Or.inl rfl) (pe_op op_mod (pe_op op_add (pe_op op_mul (pv 5) pe_int) pe_int) pe_int))
  (pss_one (ps_expr (k_pe_bm (K := K) rfl (pe_bm PySem.F.plainAttrs_list PySem.F.slot_list_append PySem.F.type_list_append mt_append (pv 2) (pa_cons (pe_op op_mod (pe_op op_fdiv (pv 5) pe_int) (pv 4)) pa_nil)))))))
  (pss_one (ps_ret (pv 2)))))))), ?_⟩)
  obtain ⟨v, u, c, bs, rfl, r1, r2, ⟨hb, hl⟩, q⟩ := h
  obtain rfl := r1.int
  refine q_setL (K := K) (α := Int) (xs := []) (el_lst ea_nil) fun p H1 hp e1 o1 => ?_
  refine q_setI (K := K) (x := c) (er_int1 (er_vint rfl)) fun H2 e2 => ?_
  refine q_if (K := K) (b := decide (10 ^ (18 : Int).toNat ≤ c)) (by walk_at "ev") (fun hc H3 e3 => ?_) (fun hc H3 e3 => ?_)
  · have hc := of_decide_eq_true hc
    refine q_setI (K := K) (x := c - 10 ^ (18 : Int).toNat) (by walk_at "ev") fun H4 e4 => ?_
    have e04 : Ex H H4 := e1.trans (e2.trans (e3.trans e4))
    refine s_seq (s_forV (K := K) (xs := bs) rfl r2 e04 (fun i σ' H' => ∃ o, σ' = [some (.int c), some u, some (.ref p), some (.int (bigR (c - 10 ^ 18) (bs.take i))), o, none] ∧ Own K H' p (big (c - 10 ^ 18) (bs.take i)))
      ⟨none, rfl, o1.mono (e2.trans (e3.trans e4))⟩ ?_ ?_)
    · rintro i b w σ' H5 hi e5 rb ⟨o, rfl, o5⟩
      obtain rfl := Rep.int rb
      have hm := hb b (List.mem_of_getElem? hi)
      refine q_app (l := 2) rfl o5 (x := bigR (c - 10 ^ 18) (bs.take i) % b) (by walk_at "ev") (by rw [big_len, List.length_take]; omega) fun H6 k6 _ o6 => ?_
      refine s_setI (K := K) (x := bigR (c - 10 ^ 18) (bs.take i) / b) (by walk_at "ev") fun H7 e7 => ⟨(k6 _ e5 hp).trans e7, some (.int b), ?_, ?_⟩
      · rw [take_succ_get hi]
        simp [bigR]
      · rw [take_succ_get hi, big_snoc]
        exact o6.mono e7
    · rintro σ' H5 e5 ⟨o, rfl, o5⟩
      rw [List.take_length] at o5
      refine ⟨_, rfl, q p H5 hp e5 ?_⟩
      unfold drw
      rw [if_pos (show 10 ^ 18 ≤ c from hc)]
      exact o5
  · have hc := of_decide_eq_false hc
    refine q_setI (K := K) (x := c % 2147483647) (by walk_at "ev") fun H4 e4 => ?_
    have e04 : Ex H H4 := e1.trans (e2.trans (e3.trans e4))
    refine s_seq (s_forV (K := K) (xs := bs) rfl r2 e04 (fun i σ' H' => ∃ o, σ' = [some (.int c), some u, some (.ref p), some (.int c), o, some (.int (smallR (c % 2147483647) (bs.take i)))] ∧ Own K H' p (small (c % 2147483647) (bs.take i)))
      ⟨none, rfl, o1.mono (e2.trans (e3.trans e4))⟩ ?_ ?_)
    · rintro i b w σ' H5 hi e5 rb ⟨o, rfl, o5⟩
      obtain rfl := Rep.int rb
      have hm := hb b (List.mem_of_getElem? hi)
      have hs := smallR_lt (s := c % 2147483647) (Int.emod_nonneg _ (by decide)) (Int.emod_lt_of_pos _ (by decide)) (bs.take i)
      refine q_setI (K := K) (x := (smallR (c % 2147483647) (bs.take i) * 48271 + 12345) % 2147483647) (by walk_at "ev") fun H6 e6 => ?_
      refine s_app (l := 2) rfl (o5.mono e6) (x := (smallR (c % 2147483647) (bs.take i) * 48271 + 12345) % 2147483647 / 64 % b) (by walk_at "ev") (by rw [small_len, List.length_take]; omega) fun H7 k7 _ o7 => ⟨k7 _ (e5.trans e6) hp, some (.int b), ?_, ?_⟩
      · rw [take_succ_get hi]
        simp [smallR]
      · rw [take_succ_get hi, small_snoc]
        exact o7
    · rintro σ' H5 e5 ⟨o, rfl, o5⟩
      rw [List.take_length] at o5
      refine ⟨_, rfl, q p H5 hp e5 ?_⟩
      unfold drw
      rw [if_neg (show ¬ (10 ^ 18 ≤ c) from hc)]
      exact o5
end
set_option Elab.async false
set_option linter.all false
set_option maxRecDepth 100000
set_option maxHeartbeats 400000
set_option autoImplicit false
open PySem L2 Z
open Evl (Ex)
/-! webs -/
abbrev L (t : Tp Int) : List Int := t
def Two (ts : List (Tp Int)) : Prop := ∀ t : Tp Int, t ∈ ts → List.length t = 2
theorem two_at {t : Tp Int} (h : List.length t = 2) : L t = [(L t).getD 0 0, (L t).getD 1 0] := by
  match t, h with
  | [x, y], _ => rfl
def loT (t : Tp Int) : Int := min ((L t).getD 0 0) ((L t).getD 1 0)
def hiT (t : Tp Int) : Int := max ((L t).getD 0 0) ((L t).getD 1 0)
def nrm (t : Tp Int) : Tp Int := (show List Int from [loT t, hiT t])
def badT (n : Int) (seen : List (Tp Int)) (t : Tp Int) : Bool := decide (loT t < 0) || (decide (n ≤ hiT t) || (decide (loT t = hiT t) || decide (nrm t ∈ seen)))
def wbad (n : Int) : List (Tp Int) → List (Tp Int) → Nat → Option Int
  | [], _, _ => none
  | t :: ts, seen, i => if badT n seen t = true then some i else wbad n ts (seen ++ [nrm t]) (i + 1)
def webBad (n : Int) (ts : List (Tp Int)) : Option Int := if n < 0 ∨ 24 < n ∨ 60 < ts.length then some (-1) else wbad n ts [] 0
structure Ties (n : Int) (ts : List (Tp Int)) : Prop where
  at_ : ∀ t : Tp Int, t ∈ ts → 0 ≤ loT t ∧ hiT t < n ∧ loT t ≠ hiT t
  nd : (ts.map nrm).Nodup
theorem wbad_none {n : Int} : ∀ {ts seen : List (Tp Int)} {i : Nat}, wbad n ts seen i = none → Ties n ts ∧ ∀ x, x ∈ seen → x ∉ ts.map nrm
  | [], seen, i, _ => ⟨⟨fun t h => absurd h List.not_mem_nil, List.nodup_nil⟩, fun x _ h => absurd h List.not_mem_nil⟩
  | t :: ts, seen, i, h => by
    unfold wbad at h
    cases hb : badT n seen t with
    | true => rw [hb, if_pos rfl] at h; cases h
    | false =>
      rw [hb, if_neg Bool.false_ne_true] at h
      obtain ⟨⟨h1, h2⟩, h3⟩ := wbad_none h
      unfold badT at hb
      simp only [Bool.or_eq_false_iff, decide_eq_false_iff_not] at hb
      refine ⟨⟨fun u hu => ?_, ?_⟩, fun x hx hx' => ?_⟩
      · rcases List.mem_cons.mp hu with rfl | hu
        · omega
        · exact h1 u hu
      · rw [List.map_cons]
        exact List.nodup_cons.mpr ⟨h3 _ (List.mem_append_right _ (List.mem_singleton.mpr rfl)), h2⟩
      · rw [List.map_cons] at hx'
        rcases List.mem_cons.mp hx' with rfl | hx'
        · exact hb.2.2.2 hx
        · exact h3 x (List.mem_append_left _ hx) hx'
/-- the ties as a web tells them -/
def webT (ts : List (Tp Int)) : List (Tp Int) := srtK (codeT 64) (ts.map nrm)
/-- what is tied to a place, in the order of the ties -/
def adj (ties : List (Tp Int)) (k : Nat) : List Int := ties.flatMap fun t => (if (L t).getD 0 0 = k then [(L t).getD 1 0] else []) ++ (if (L t).getD 1 0 = k then [(L t).getD 0 0] else [])
theorem adj_snoc {ties : List (Tp Int)} {t : Tp Int} {k : Nat} : adj (ties ++ [t]) k = adj ties k ++ ((if (L t).getD 0 0 = k then [(L t).getD 1 0] else []) ++ (if (L t).getD 1 0 = k then [(L t).getD 0 0] else [])) := by
  unfold adj
  rw [List.flatMap_append]
  simp
theorem adj_len {ties : List (Tp Int)} {k : Nat} : (adj ties k).length ≤ 2 * ties.length := by
  unfold adj
  induction ties with
  | nil => exact Nat.le_refl _
  | cons t ts ih =>
    rw [List.flatMap_cons, List.length_append, List.length_append, List.length_cons]
    have h1 : (if (L t).getD 0 0 = k then [(L t).getD 1 0] else []).length ≤ 1 := by split <;> simp
    have h2 : (if (L t).getD 1 0 = k then [(L t).getD 0 0] else []).length ≤ 1 := by split <;> simp
    omega
/-- a tie of a web: the lesser place first -/
structure TieOk (n : Nat) (t : Tp Int) : Prop where
  len : List.length t = 2
  h0 : 0 ≤ (L t).getD 0 0
  lt : (L t).getD 0 0 < (L t).getD 1 0
  hn : (L t).getD 1 0 < n
theorem webT_ok {n : Nat} {ts : List (Tp Int)} (h : Ties n ts) : ∀ t : Tp Int, t ∈ webT ts → TieOk n t := fun t ht => by
  obtain ⟨u, hu, rfl⟩ := List.mem_map.mp (srtK_mem.mp ht)
  have := h.at_ u hu
  have e0 : (L (nrm u)).getD 0 0 = loT u := rfl
  have e1 : (L (nrm u)).getD 1 0 = hiT u := rfl
  refine ⟨rfl, by rw [e0]; exact this.1, ?_, by rw [e1]; exact this.2.1⟩
  rw [e0, e1]
  have h3 := this.2.2
  unfold loT hiT at *
  omega
theorem webT_len {ts : List (Tp Int)} : (webT ts).length = ts.length := by unfold webT; rw [srtK_len, List.length_map]
theorem webT_rows {n : Nat} {ts : List (Tp Int)} (h : Ties n ts) (hn : n ≤ 24) : Rows 2 64 (ts.map nrm) := fun t ht => by
  have := webT_ok h t (srtK_mem.mpr ht)
  refine ⟨this.len, fun m hm => ?_⟩
  have hm : m ∈ L t := hm
  rw [two_at this.len] at hm
  have h0 := this.h0
  have h1 := this.lt
  have h2 := this.hn
  rcases List.mem_cons.mp hm with rfl | hm
  · omega
  · have := List.mem_singleton.mp hm
    subst this
    omega
theorem valV_mem {κ : Type} [DecidableEq κ] {kvs : List (κ × V)} {k : κ} : (valV kvs k).isSome = decide (k ∈ kvs.map (·.1)) := by
  rw [Bool.eq_iff_iff, decide_eq_true_eq]
  constructor
  · intro h
    refine Classical.byContradiction fun z => ?_
    rw [valV_none.mpr z] at h
    cases h
  · intro h
    cases e : valV kvs k with
    | some v => rfl
    | none => exact absurd h (valV_none.mp e)
theorem tkey_mem {t : Tp Int} {ts : List (Tp Int)} : tkey t ∈ ts.map tkey ↔ t ∈ ts := by
  constructor
  · intro h
    obtain ⟨u, hu, e⟩ := List.mem_map.mp h
    rw [← tkey_inj e]
    exact hu
  · exact fun h => List.mem_map_of_mem h
section
variable {P : Program} {w : World} {K : PySem.W.Frag} {mg : Str → Option Value} {base : Heap} {a : Ad}
/-- a web -/
def WebAt (K : PySem.W.Frag) (C : Addr) (H : Hp) (w : Addr) (n : Nat) (ties : List (Tp Int)) : Prop := ∃ (dx pt pn : Addr) (obs : List Ob), H w = some (.ins C dx [("places", .int n), ("ties", .ref pt), ("near", .ref pn)]) ∧ Z.Own K H pt ties ∧
  H pn = some (.lst (obs.map fun x => V.ref x.a)) ∧ obs.length = n ∧ ∀ (k : Nat) (x : Ob), obs[k]? = some x → H x.a = some (.lst ((adj ties k).map V.int))
theorem WebAt.mono {C w : Addr} {G H : Hp} {n : Nat} {ties : List (Tp Int)} (e : Ex G H) (h : WebAt K C G w n ties) : WebAt K C H w n ties := by
  obtain ⟨dx, pt, pn, obs, h1, h2, h3, h4, h5⟩ := h
  exact ⟨dx, pt, pn, obs, e _ _ h1, h2.mono e, e _ _ h3, h4, fun k x hx => e _ _ (h5 k x hx)⟩
theorem ok_BadWebw_initw (T : Txt P K mg a) : FnOk P w K mg base CX0 1 a.f_BadWebw_initw a.d_BadWebw_initw ["self", "index"] (spX1 K a.C_BadWeb "index") :=
  T.F_BadWebw_initw.ok sc_BadWebw_initw len_X1 fun A outer s H vs Q E hr h => ⟨_, pssa_supE T.F_BadWebw_initw sc_BadWebw_initw rfl rfl (pa_cons pe_str pa_nil) (pssa_of (pss_one (ps_ost (pv 0) (pv 1)))),
    read_X1 T.S_BadWebw_initw T.nf_BadWeb_index h (len_X1 _ _ _ _ h).symm⟩
def spWebI (K : PySem.W.Frag) (C N : Addr) : Sp := fun vs H Q E => ∃ (x : Addr) (n : Int) (v : V) (ts : List (Tp Int)), vs = [.ref x, .int n, v] ∧ (∃ dx, H x = some (.ins C dx [])) ∧ Rep K H v ts ∧ Two ts ∧ ts.length ≤ 50000 ∧
  (webBad n ts = none → ∀ (m : Nat) H', (m : Int) = n → Ex (Z.cut H x) (Z.cut H' x) → WebAt K C H' x m (webT ts) → (∀ q ws, H q = some (.lst ws) → WebAt K C (Z.cut H' q) x m (webT ts)) → Q .non H') ∧
  (∀ k, webBad n ts = some k → ∀ d H', Ex H H' → H' d = some (.xd [("index", .int k)]) → E (.ref N) (some d) H')
set_option maxHeartbeats 1600000 in
theorem ok_Webw_initw (T : Txt P K mg a) : FnOk P w K mg base (L2N.CX P w) 3 a.f_Webw_initw a.d_Webw_initw ["self", "places", "ties"] (spWebI K a.C_Web a.C_BadWeb) := by
  refine okXN T.F_Webw_initw sc_Webw_initw (fun vs H Q E (h : spWebI K a.C_Web a.C_BadWeb vs H Q E) => by obtain ⟨x, n, v, ts, rfl, _⟩ := h; rfl) (fun cdv A outer s H vs Q E hr h => ⟨_, (pss_cons (ps_if (PW.pt (pw_or (pt_cmpR op_lt (pv 1) pe_int (nomark _)) (pw_or (pt_cmpR op_gt (pv 1) (pe_glob (v := .int 24) (by rfl) T.m_MOST_PLACES.choose_spec ⟨_, rfl⟩) (nomark _)) (pw_or1 (pt_cmpR op_gt (pe_callB (k_call_len_seq (K := K) rfl) (by rfl) T.z_len (by decide +kernel) (pa_cons (pv 2) pa_nil)) (pe_glob (v := .int 60) (by rfl) T.m_MOST_TIES.choose_spec ⟨_, rfl⟩) (nomark _))))))
  (pss_one (L2N.ps_raise rfl (L2N.takes_of rfl rfl rfl rfl) (pmk_oexN T.S_BadWebw_initw.T T.i_BadWebw_initw T.ti_BadWebw_initw (ok_BadWebw_initw T) (hr.mono (by decide)) T.b_BadWebw_initw .nil pass0 (by rfl) T.m_BadWeb (pa_cons (pe_un un_neg pe_int) pa_nil))))
  pss_nil)
  (pss_cons (ps_set (i := 3) sc_Webw_initw.nd rfl (Or.inl rfl) pe_dnewT)
  (pss_cons (ps_for (passes_of rfl) rfl (k_pi_enum (K := K) rfl (pi_enum (by rfl) T.z_enumerate (pa_cons (pv 2) pa_nil))) (k_pg_tup (K := K) rfl (pg_tup (n := 2) (by rfl) (pgs_cons (pg_name (i := 4) sc_Webw_initw.nd rfl (Or.inl rfl)) (pgs_cons (k_pg_tup (K := K) rfl (pg_tup (n := 2) (by rfl) (pgs_cons (pg_name (i := 5) sc_Webw_initw.nd rfl (Or.inl rfl)) (pgs_cons (pg_name (i := 6) sc_Webw_initw.nd rfl (Or.inl rfl)) pgs_nil)))) pgs_nil))))
  (pss_cons (ps_set (i := 7) sc_Webw_initw.nd rfl (Or.inl rfl) (pe_callB (call_min2 rfl) (by rfl) T.z_min (by decide +kernel) (pa_cons (pv 5) (pa_cons (pv 6) pa_nil))))
  (pss_cons (ps_set (i := 8) sc_Webw_initw.nd rfl (Or.inl rfl) (pe_callB (call_max2 rfl) (by rfl) T.z_max (by decide +kernel) (pa_cons (pv 5) (pa_cons (pv 6) pa_nil))))
  (pss_cons (ps_if (PW.pt (pw_or (pt_cmpR op_lt (pv 7) pe_int (nomark _)) (pw_or (pt_cmpR op_ge (pv 8) (pv 1) (nomark _)) (pw_or (pt_cmpR op_eq (pv 7) (pv 8) (nomark _)) (pw_or1 (pt_cmp (pc_din (u1 hr) (pe_tup (pa_cons (pv 7) (pa_cons (pv 8) pa_nil))) (pv 3))))))))
  (pss_one (L2N.ps_raise rfl (L2N.takes_of rfl rfl rfl rfl) (pmk_oexN T.S_BadWebw_initw.T T.i_BadWebw_initw T.ti_BadWebw_initw (ok_BadWebw_initw T) (hr.mono (by decide)) T.b_BadWebw_initw .nil pass0 (by rfl) T.m_BadWeb (pa_cons (pv 4) pa_nil))))
  pss_nil)
  (pss_one (ps_dput (u1 hr) (pv 3) (pe_tup (pa_cons (pv 7) (pa_cons (pv 8) pa_nil))) (pv 4) rfl))))))
  (pss_cons (k_ps_fld (K := K) rfl (ps_fld (pv 0) (pv 1) rfl))
  (pss_cons (k_ps_fld (K := K) rfl (ps_fld (pv 0) (pe_callB (k_cr_sortT (K := K) (d := 2) (B := 64) rfl (by decide)) (by rfl) T.z_sorted (by decide +kernel) (pa_cons (pe_callTy (call_list_dT rfl) (by rfl) T.z_list (by decide +kernel) (pa_cons (pv 3) pa_nil)) pa_nil)) rfl))
  (pss_cons (k_ps_fld (K := K) rfl (ps_fld (pv 0) (pe_lc (own := [("_", 9)]) rfl sc_Webw_initw.nd (pi_range1 (by rfl) T.z_range (pa_cons (pv 1) pa_nil)) (blkOk_by (own := [("_", 9)]) (N := N_Webw_initw) (sc := defScope s_Webw_initw) (by decide +kernel)) (fun _ _ _ _ _ => (pg_name (i := 9) sc_Webw_initw.nd rfl (Or.inl rfl))) (fun _ _ _ _ _ => pts_nil) (fun _ _ _ _ _ => (pe_lst pa_nil))) rfl))
  (pss_one (ps_for (passes_of rfl) rfl (k_pi_list (K := K) rfl (k_pe_fld (K := K) rfl (pe_fld (pv 0) (by rfl)))) (k_pg_tup (K := K) rfl (pg_tup (n := 2) (by rfl) (pgs_cons (pg_name (i := 7) sc_Webw_initw.nd rfl (Or.inl rfl)) (pgs_cons (pg_name (i := 8) sc_Webw_initw.nd rfl (Or.inl rfl)) pgs_nil))))
  (pss_cons (ps_expr (k_pe_bm (K := K) rfl (pe_bm PySem.F.plainAttrs_list PySem.F.slot_list_append PySem.F.type_list_append mt_append (pe_ix (k_ix_list (K := K) rfl) (k_pe_fld (K := K) rfl (pe_fld (pv 0) (by rfl))) (pv 7) (fun _ _ => rfl)) (pa_cons (pv 8) pa_nil))))
  (pss_one (ps_expr (k_pe_bm (K := K) rfl (pe_bm PySem.F.plainAttrs_list PySem.F.slot_list_append PySem.F.type_list_append mt_append (pe_ix (k_ix_list (K := K) rfl) (k_pe_fld (K := K) rfl (pe_fld (pv 0) (by rfl))) (pv 8) (fun _ _ => rfl)) (pa_cons (pv 7) pa_nil)))))))))))))), ?_⟩)
  obtain ⟨x, n, v, ts, rfl, ⟨dx, hx0⟩, r1, h2, hz, q, ke⟩ := h
  refine q_if (K := K) (b := decide (n < 0) || (decide (24 < n) || decide (60 < (ts.length : Int)))) (et_orU (et_test (er_lt (er_vint rfl) er_int)) (et_orU (et_test (er_gt (er_vint rfl) er_int)) (et_test (er_gt (ed_lenL (er_var rfl r1 (Ex.refl _))) er_int)))) (fun hb H1 e1 => ?_) (fun hb H1 e1 => ?_)
  · refine mk_X1 (K := K) (v := .int (-1)) (ER.evI (by walk_at "ev")) fun d H2 _ e2 hd => ke _ ?_ d H2 (e1.trans e2) hd
    unfold webBad
    rw [if_pos]
    simp at hb
    omega
  · have hb : 0 ≤ n ∧ n ≤ 24 ∧ ts.length ≤ 60 := by
      simp at hb
      omega
    have hwb : webBad n ts = wbad n ts [] 0 := if_neg (by omega)
    obtain ⟨m, rfl⟩ : ∃ m : Nat, n = m := ⟨n.toNat, by omega⟩
    refine q_dnewT fun p H2 hp e2 h4 => ?_
    have hpH : H p = none := fresh_back e1 hp
    refine q_enumGV (K := K) (xs := ts) (v := v) rfl r1 (e1.trans e2) (fun i σ' H' => ∃ (kvs : List (List Key × V)) (o4 o5 o6 o7 o8 : Option V), σ' = [some (.ref x), some (.int m), some v, some (.ref p), o4, o5, o6, o7, o8, none] ∧ H' p = some (.dT kvs) ∧ kvs.map (·.1) = ((ts.take i).map nrm).map tkey ∧ wbad m ts [] 0 = wbad m (ts.drop i) ((ts.take i).map nrm) i)
      ⟨[], _, _, _, _, _, rfl, h4, by rw [List.take_zero]; rfl, by rw [List.take_zero, List.drop_zero]; rfl⟩ ?_ ?_
    · rintro i t w' σ' H3 H4 hi e3 e4 rt ⟨kvs, o4, o5, o6, o7, o8, rfl, hp3, hk, hw⟩
      have hil : i < ts.length := (List.getElem?_eq_some_iff.mp hi).1
      have tl := two_at (h2 t (List.mem_of_getElem? hi))
      have hdrop : ts.drop i = t :: ts.drop (i + 1) := by rw [List.drop_eq_getElem_cons hil, (List.getElem?_eq_some_iff.mp hi).2]
      have hkvl : kvs.length ≤ i := by
        have := congrArg List.length hk
        rw [List.length_map, List.length_map, List.length_map, List.length_take] at this
        omega
      have e34 := e3.trans e4
      have hp4 := e4 _ _ hp3
      refine g_pair (K := K) (rt.mono e34) tl ⟨rfl, ?_⟩
      refine q_setI (K := K) (x := loT t) (er_min2 (er_vint rfl) (er_vint rfl)) fun H5 e5 => ?_
      refine q_setI (K := K) (x := hiT t) (er_max2 (er_vint rfl) (er_vint rfl)) fun H6 e6 => ?_
      have hp6 := e6 _ _ (e5 _ _ hp4)
      have e36 := e34.trans (e5.trans e6)
      have hin : (valV kvs (tkey (nrm t))).isSome = decide (nrm t ∈ (ts.take i).map nrm) := by
        rw [valV_mem, hk]
        exact decide_eq_decide.mpr tkey_mem
      refine q_if (K := K) (b := badT m ((ts.take i).map nrm) t) (et_orU (et_test (er_lt (er_vint rfl) er_int)) (et_orU (et_test (er_ge (er_vint rfl) (er_vint rfl))) (et_orU (et_test (er_eqI (er_vint rfl) (er_vint rfl))) (et_test (ER.is (er_dinT (t := nrm t) (ev_var rfl) (er_tup (α := Int) (xs := [loT t, hiT t]) (ea_cons (er_vint rfl) (ea_cons (er_vint rfl) ea_nil))) hp6) hin))))) (fun hb2 H7 e7 => ?_) (fun hb2 H7 e7 => ?_)
      · refine mk_X1 (K := K) (v := .int i) (ER.evI (by walk_at "ev")) fun d H8 _ e8 hd => ke i ?_ d H8 (e36.trans (e7.trans e8)) hd
        rw [hwb, hw, hdrop]
        unfold wbad
        rw [if_pos hb2]
      · have hnew : valV kvs (tkey (nrm t)) = none := by
          cases e : valV kvs (tkey (nrm t)) with
          | none => rfl
          | some z =>
            rw [e] at hin
            have hm : decide (nrm t ∈ (ts.take i).map nrm) = true := hin.symm
            unfold badT at hb2
            rw [hm] at hb2
            simp at hb2
        refine s_dputT (K := K) (t := nrm t) (v := .int i) (ev_var rfl) (fun H9 e9 => ev_var rfl) (fun H9 e9 => er_tup (α := Int) (xs := [loT t, hiT t]) (ea_cons (er_vint rfl) (ea_cons (er_vint rfl) ea_nil))) (e7 _ _ hp6) (by omega) fun H8 k8 t8 h8 => ⟨k8 _ (e36.trans e7) hpH, _, _, _, _, _, _, rfl, h8, ?_, ?_⟩
        · rw [putK_new _ hnew, List.map_append, hk, take_succ_get hi, List.map_append, List.map_append]
          rfl
        · rw [hw, hdrop, take_succ_get hi, List.map_append]
          conv => lhs; unfold wbad
          rw [if_neg (by rw [hb2]; decide)]
          rfl
    · rintro σ' H3 e3 ⟨kvs, o4, o5, o6, o7, o8, rfl, hp3, hk, hw⟩
      have hgood : wbad m ts [] 0 = none := by
        rw [hw, List.drop_length]
        rfl
      rw [List.take_length] at hk
      have hT := (wbad_none hgood).1
      have hx3 := e3 _ _ hx0
      have hxp : p ≠ x := fun z => by rw [z, hx3] at hp3; cases hp3
      refine q_fld (K := K) (v := .int m) (ev_var rfl) rfl hx3 T.cl_Web T.na_Web_places (by decide) fun H4 e4 => ?_
      have hx4 := e4 _ _ hx3
      have hp4 : (upd H4 x (.ins a.C_Web dx (putF "places" (.int m) []))) p = some (.dT kvs) := by rw [upd_ne hxp]; exact e4 _ _ hp3
      refine q_fldL (K := K) (xs := webT ts) (el_sortU (EL.er (el_listD (ts := ts.map nrm) (ev_var rfl) hp4 hk)) (by rw [List.length_map]; omega) (webT_rows hT (by omega))) rfl upd_same T.cl_Web T.na_Web_ties (by show 1 < 1000; decide) fun pt H5 hpt e5 w5 => ?_
      have hx5 := e5 _ _ (upd_same (H := H4) (a := x) (o := .ins a.C_Web dx (putF "places" (.int m) [])))
      have o5' := own_updI (o' := .ins a.C_Web dx (putF "ties" (.ref pt) (putF "places" (.int m) []))) w5 hx5
      have c5 : Ex (Z.cut H x) (upd H5 x (.ins a.C_Web dx (putF "ties" (.ref pt) (putF "places" (.int m) [])))) := ex_mut ((ex_mut ((cut_ex.trans e3).trans e4) cut_same).trans e5) cut_same
      refine q_fldW rfl ?_
      refine nest_new (K := K) (n := m) ?_ (by omega) _ (Ex.refl _) _ fun pn H6 obs hpn e6 hn6 hol hob hnd => ?_
      · exact er_vint rfl
      have hx6 := e6 _ _ (upd_same (H := H5) (a := x) (o := .ins a.C_Web dx (putF "ties" (.ref pt) (putF "places" (.int m) []))))
      refine ⟨a.C_Web, dx, _, hx6, T.cl_Web, T.na_Web_near, by show 2 < 1000; decide, ?_⟩
      -- the web's ties are walked, its near lists grow
      generalize hfs : putF "near" (V.ref pn) (putF "ties" (V.ref pt) (putF "places" (V.int m) [])) = fs
      have hfsv : fs = ([("places", .int m), ("ties", .ref pt), ("near", .ref pn)] : List (Str × V)) := by rw [← hfs]; rfl
      have w7 := own_updI (o' := .ins a.C_Web dx fs) (o5'.mono e6) hx6
      have c7 : Ex (Z.cut H x) (upd H6 x (.ins a.C_Web dx fs)) := ex_mut (c5.trans e6) cut_same
      have nx : ∀ y : Ob, y ∈ obs → y.a ≠ x := fun y hy z => by have := (hob y hy).2.2; rw [z, hx6] at this; cases this
      have hn7 : (upd H6 x (.ins a.C_Web dx fs)) pn = some (.lst (obs.map fun x : Ob => V.ref x.a)) := by
        rw [upd_ne (fun z => by rw [z, hx6] at hn6; cases hn6)]
        exact hn6
      let S : Addr → Bool := fun b => decide (b ∈ obs.map (·.a))
      have hS : ∀ b, S b = true → ∃ y : Ob, y ∈ obs ∧ y.a = b := fun b hb => by
        obtain ⟨y, hy, e⟩ := List.mem_map.mp (of_decide_eq_true hb)
        exact ⟨y, hy, e⟩
      have hSn : ∀ b, (∀ y : Ob, y ∈ obs → y.a ≠ b) → S b = false := fun b hb => decide_eq_false fun z => by
        obtain ⟨y, hy, e⟩ := List.mem_map.mp z
        exact hb y hy e
      have hSl : ∀ b, S b = true → ∃ ws, (upd H6 x (.ins a.C_Web dx fs)) b = some (.lst ws) := fun b hb => by
        obtain ⟨y, hy, rfl⟩ := hS b hb
        exact ⟨[], by rw [upd_ne (nx y hy)]; exact (hob y hy).2.2⟩
      have hpt6 : ∀ y : Ob, y ∈ obs → y.a ≠ pt := fun y hy z => by
        obtain ⟨ws, hw⟩ := o5'.at
        have := (hob y hy).1
        rw [z, hw] at this
        cases this
      have og := own_mask w7 hSl (hSn pt hpt6)
      have gn : mask S (upd H6 x (.ins a.C_Web dx fs)) pn = some (.lst (obs.map fun x : Ob => V.ref x.a)) := by rw [mask_no (hSn pn fun y hy => (hob y hy).2.1)]; exact hn7
      have gx : mask S (upd H6 x (.ins a.C_Web dx fs)) x = some (.ins a.C_Web dx fs) := by rw [mask_no (hSn x nx)]; exact upd_same
      have cG : Ex (Z.cut H x) (mask S (upd H6 x (.ins a.C_Web dx fs))) := fun b o hb => by
        rw [mask_no (hSn b fun y hy z => ?_)]
        · exact c7 _ _ hb
        · have := (hob y hy).1
          rw [z, c5 _ _ hb] at this
          cases this
      have fld : ∀ {G : Hp} {f : Str} {v : V} (σ : L2.St), σ[0]? = some (some (.ref x)) → Ex (mask S (upd H6 x (.ins a.C_Web dx fs))) G → NoAttr K a.C_Web f → fs.lookup f = some v → EV K (tFld K (tVar 0) f) σ G v := fun σ h0 e na hl => ev_fld (ev_var h0) gx e T.cl_Web na hl
      refine s_forE (K := K) (xs := webT ts) (v := .ref pt) (fld _ rfl mask_ex T.na_Web_ties (by rw [hfsv]; rfl)) og.rep mask_ex (fun i σ' H' => (∃ o7 o8, σ' = [some (.ref x), some (.int m), some v, some (.ref p), o4, o5, o6, o7, o8, none]) ∧ ∀ (k : Nat) (y : Ob), obs[k]? = some y → H' y.a = some (.lst ((adj ((webT ts).take i) k).map V.int)))
        (fun H8 e8 => ⟨⟨_, _, rfl⟩, fun k y hy => by
          rw [List.take_zero]
          have hm := List.mem_of_getElem? hy
          exact e8 _ _ (by rw [upd_ne (nx y hm)]; exact (hob y hm).2.2)⟩) ?_ ?_
      · rintro i t w' σ' H8 hi e8 rt ⟨⟨o7', o8', rfl⟩, hnear⟩
        have tok := webT_ok hT t (List.mem_of_getElem? hi)
        have hil : i < (webT ts).length := (List.getElem?_eq_some_iff.mp hi).1
        rw [webT_len] at hil
        have t0 := tok.h0
        have t1 := tok.lt
        have t2 := tok.hn
        obtain ⟨ka, hka⟩ : ∃ k : Nat, (L t).getD 0 0 = k := ⟨((L t).getD 0 0).toNat, by omega⟩
        obtain ⟨kb, hkb⟩ : ∃ k : Nat, (L t).getD 1 0 = k := ⟨((L t).getD 1 0).toNat, by omega⟩
        have la : ka < obs.length := by omega
        have lb : kb < obs.length := by omega
        have ga := List.getElem?_eq_getElem la
        have gb := List.getElem?_eq_getElem lb
        have inj : ∀ {j k : Nat} {y z : Ob}, obs[j]? = some y → obs[k]? = some z → y.a = z.a → j = k := fun {j k y z} hj hk he => by
          have hj' : (obs.map (·.a))[j]? = some y.a := by rw [List.getElem?_map, hj]; rfl
          have hk' : (obs.map (·.a))[k]? = some z.a := by rw [List.getElem?_map, hk]; rfl
          exact (List.getElem?_inj (List.getElem?_eq_some_iff.mp hj').1 hnd).mp (by rw [hj', hk', he])
        refine g_pair (K := K) (rt.mono e8) (two_at tok.len) ?_
        have ll : ∀ k, (adj ((webT ts).take i) k).length < 100000 := fun k => by
          have := adj_len (ties := (webT ts).take i) (k := k)
          rw [List.length_take, webT_len] at this
          omega
        have rcv : ∀ {G : Hp} {σ : L2.St} {j : Nat} {k : Nat} {y : Ob}, σ[0]? = some (some (.ref x)) → σ[j]? = some (some (.int (k : Nat))) → Ex (mask S (upd H6 x (.ins a.C_Web dx fs))) G → obs[k]? = some y → EV K (tOp (rIxL K) (tFld K (tVar 0) "near") (tVar j)) σ G (.ref y.a) := fun {G σ j k y} h0 hj e hy =>
          ER.evO (er_ixL (xs := obs) (i := (k : Int)) ((fld σ h0 e T.na_Web_near (by rw [hfsv]; rfl)).er (own_obs.mpr (e _ _ gn)).rep) (er_vint hj) (Z.atI_ofN hy))
        refine q_appE (K := K) (l := obs[ka].a) (v := (L t).getD 1 0) (rcv rfl (by rw [← hka]; rfl) e8 ga) (hnear ka _ ga) (fun H9 e9 => er_vint rfl) (by rw [List.length_map]; exact ll ka) fun H9 k9 n9 h9 => ?_
        have hSa : ∀ y : Ob, y ∈ obs → mask S (upd H6 x (.ins a.C_Web dx fs)) y.a = none := fun y hy => mask_yes (decide_eq_true (List.mem_map_of_mem hy))
        have e9 : Ex (mask S (upd H6 x (.ins a.C_Web dx fs))) H9 := k9 _ e8 (hSa _ (List.getElem_mem la))
        have hab : obs[kb].a ≠ obs[ka].a := fun z => by have := inj gb ga z; omega
        refine s_appE (K := K) (l := obs[kb].a) (v := (L t).getD 0 0) (rcv rfl (by rw [← hkb]; rfl) e9 gb) (n9 _ _ (hnear kb _ gb) hab) (fun H10 e10 => er_vint rfl) (by rw [List.length_map]; exact ll kb) fun H10 k10 n10 h10 => ⟨k10 _ e9 (hSa _ (List.getElem_mem lb)), ⟨_, _, rfl⟩, fun k y hy => ?_⟩
        rw [take_succ_get hi, adj_snoc, List.map_append]
        by_cases ha : k = ka
        · subst ha
          rw [ga] at hy
          cases hy
          rw [if_pos hka, if_neg (by omega), List.append_nil]
          exact n10 _ _ h9 (Ne.symm hab)
        · by_cases hb' : k = kb
          · subst hb'
            rw [gb] at hy
            cases hy
            rw [if_neg (by omega), if_pos hkb, List.nil_append]
            exact h10
          · rw [if_neg (by omega), if_neg (by omega), List.append_nil, List.map_nil, List.append_nil]
            refine n10 _ _ (n9 _ _ (hnear k y hy) fun z => ha (inj hy ga z)) fun z => hb' (inj hy gb z)
      · rintro σ' H8 e8 ⟨⟨o7', o8', rfl⟩, hnear⟩
        rw [List.take_length] at hnear
        have hx8 : H8 x = some (.ins a.C_Web dx [("places", .int m), ("ties", .ref pt), ("near", .ref pn)]) := by
          rw [← hfsv]
          exact e8 _ _ gx
        refine q (hwb.trans hgood) m H8 rfl (ex_cut (cG.trans e8) cut_same) ⟨dx, pt, pn, obs, hx8, og.mono e8, e8 _ _ gn, hol, hnear⟩ fun b ws hb => ?_
        have nbx : b ≠ x := fun z => by rw [z, hx0] at hb; cases hb
        have hb4 := e4 _ _ (e3 _ _ hb)
        have hbt : b ≠ pt := fun z => by rw [← z, upd_ne nbx, hb4] at hpt; cases hpt
        have hb5 : (upd H4 x (.ins a.C_Web dx (putF "places" (.int m) []))) b = some (.lst ws) := by rw [upd_ne nbx]; exact hb4
        have hb5' := e5 _ _ hb5
        have hb6 : (upd H5 x (.ins a.C_Web dx (putF "ties" (.ref pt) (putF "places" (.int m) [])))) b = some (.lst ws) := by rw [upd_ne nbx]; exact hb5'
        have hbn : b ≠ pn := fun z => by rw [← z, hb6] at hpn; cases hpn
        have hbo : ∀ y : Ob, y ∈ obs → y.a ≠ b := fun y hy z => by have := (hob y hy).1; rw [z, hb6] at this; cases this
        have hb8 : H8 b = some (.lst ws) := (cG.trans e8) _ _ (by rw [cut_ne nbx]; exact hb)
        exact ⟨dx, pt, pn, obs, by rw [cut_ne (Ne.symm nbx)]; exact hx8, (og.mono e8).cut hb8 hbt, by rw [cut_ne (Ne.symm hbn)]; exact e8 _ _ gn, hol, fun k y hy => by rw [cut_ne (hbo y (List.mem_of_getElem? hy))]; exact hnear k y hy⟩
end
set_option Elab.async false
set_option linter.all false
set_option maxRecDepth 100000
set_option maxHeartbeats 1600000
set_option autoImplicit false
open PySem L2 Z
open Evl (Ex)
/-! what a web's near lists tell -/
def ii (xs : List Nat) : List Int := xs.map fun (k : Nat) => (k : Int)
theorem ii_len {xs : List Nat} : (ii xs).length = xs.length := List.length_map ..
theorem ii_get {xs : List Nat} {i : Nat} {r : Nat} (h : xs[i]? = some r) : (ii xs)[i]? = some (r : Int) := by unfold ii; rw [List.getElem?_map, h]; rfl
theorem ii_snoc {xs : List Nat} {o : Nat} : ii (xs ++ [o]) = ii xs ++ [(o : Int)] := by unfold ii; rw [List.map_append]; rfl
theorem ii_got {xs : List Nat} {i : Nat} {m : Int} (h : (ii xs)[i]? = some m) : ∃ r : Nat, xs[i]? = some r ∧ m = r := by
  unfold ii at h
  rw [List.getElem?_map] at h
  cases e : xs[i]? with
  | none => rw [e] at h; cases h
  | some r => rw [e] at h; cases h; exact ⟨r, rfl, rfl⟩
def nears (n : Nat) (E : List (Nat × Nat)) : List (List Int) := (List.range n).map fun k => ii (Gr.nb E k)
theorem nears_at {n k : Nat} {E : List (Nat × Nat)} (h : k < n) : (nears n E)[k]? = some (ii (Gr.nb E k)) := by
  unfold nears
  rw [List.getElem?_map, List.getElem?_range h]
  rfl
def eds (ties : List (Tp Int)) : List (Nat × Nat) := ties.map fun t => (((L t).getD 0 0).toNat, ((L t).getD 1 0).toNat)
theorem adj_nb {n : Nat} {ties : List (Tp Int)} (h : ∀ t, t ∈ ties → TieOk n t) (k : Nat) : adj ties k = ii (Gr.nb (eds ties) k) := by
  unfold adj eds Gr.nb ii
  induction ties with
  | nil => rfl
  | cons t ts ih =>
    have ok := h t (List.mem_cons_self ..)
    have h0 := ok.h0
    have h1 := ok.lt
    rw [List.map_cons, List.flatMap_cons, List.flatMap_cons, List.map_append, ih fun t ht => h t (List.mem_cons_of_mem _ ht), List.map_append]
    congr 1
    congr 1
    · by_cases z : (L t).getD 0 0 = (k : Int)
      · rw [if_pos z, if_pos (by show ((L t).getD 0 0).toNat = k; omega)]
        show [(L t).getD 1 0] = [((((L t).getD 1 0).toNat : Nat) : Int)]
        rw [Int.toNat_of_nonneg (by omega)]
      · rw [if_neg z, if_neg (by show ¬ ((L t).getD 0 0).toNat = k; omega)]
        rfl
    · by_cases z : (L t).getD 1 0 = (k : Int)
      · rw [if_pos z, if_pos (by show ((L t).getD 1 0).toNat = k; omega)]
        show [(L t).getD 0 0] = [((((L t).getD 0 0).toNat : Nat) : Int)]
        rw [Int.toNat_of_nonneg (by omega)]
      · rw [if_neg z, if_neg (by show ¬ ((L t).getD 1 0).toNat = k; omega)]
        rfl
/-- sorted ties of a web, each once -/
structure TOk (n : Nat) (ties : List (Tp Int)) : Prop where
  ok : ∀ t, t ∈ ties → TieOk n t
  nd : ties.Nodup
theorem TOk.ed {n : Nat} {ties : List (Tp Int)} (h : TOk n ties) : Gr.Ed n (eds ties) := by
  refine ⟨fun e he => ?_, ?_⟩
  · obtain ⟨t, ht, rfl⟩ := List.mem_map.mp he
    have ok := h.ok t ht
    have h0 := ok.h0
    have h1 := ok.lt
    have h2 := ok.hn
    exact ⟨by show ((L t).getD 0 0).toNat < ((L t).getD 1 0).toNat; omega, by show ((L t).getD 1 0).toNat < n; omega⟩
  · have inj : ∀ t u : Tp Int, t ∈ ties → u ∈ ties → (((L t).getD 0 0).toNat, ((L t).getD 1 0).toNat) = (((L u).getD 0 0).toNat, ((L u).getD 1 0).toNat) → t = u := fun t u ht hu e => by
      have a := h.ok t ht
      have b := h.ok u hu
      have a0 := a.h0
      have a1 := a.lt
      have b0 := b.h0
      have b1 := b.lt
      injection e with e0 e1
      have s : L t = L u := by
        rw [two_at a.len, two_at b.len]
        congr 1
        · omega
        · congr 1
          omega
      exact s
    have go : ∀ ts : List (Tp Int), ts.Nodup → (∀ t, t ∈ ts → t ∈ ties) → (eds ts).Nodup := fun ts => by
      induction ts with
      | nil => intro _ _; exact List.nodup_nil
      | cons t ts ih =>
        intro nd hs
        rw [List.nodup_cons] at nd
        unfold eds
        rw [List.map_cons, List.nodup_cons]
        refine ⟨fun z => ?_, ih nd.2 fun u hu => hs u (List.mem_cons_of_mem _ hu)⟩
        obtain ⟨u, hu, e⟩ := List.mem_map.mp z
        rw [inj u t (hs u (List.mem_cons_of_mem _ hu)) (hs t (List.mem_cons_self ..)) e] at hu
        exact nd.1 hu
    exact go ties h.nd fun t ht => ht
section
variable {K : PySem.W.Frag}
theorem reps_near {H : Hp} {f : Nat → List Int} : ∀ {obs : List Ob} {s : Nat}, (∀ (k : Nat) (x : Ob), obs[k]? = some x → H x.a = some (.lst ((f (s + k)).map V.int))) → Reps K H (obs.map fun x => V.ref x.a) ((List.range' s obs.length).map f)
  | [], s, h => reps_nil
  | x :: obs, s, h => by
    rw [List.map_cons, List.length_cons, List.range'_succ, List.map_cons]
    refine Reps.cons (rep_list (SqL.of (h 0 x rfl)) (reps_ints _)) (reps_near fun k y hy => ?_)
    have := h (k + 1) y hy
    rw [show s + (k + 1) = s + 1 + k by omega] at this
    exact this
/-- what a web's fields hold -/
theorem WebAt.fields {C w : Addr} {H : Hp} {n : Nat} {ties : List (Tp Int)} (h : WebAt K C H w n ties) (ok : TOk n ties) : ∃ (dx pt pn : Addr), H w = some (.ins C dx [("places", .int n), ("ties", .ref pt), ("near", .ref pn)]) ∧ Z.Own K H pt ties ∧ Rep K H (.ref pn) (nears n (eds ties)) := by
  obtain ⟨dx, pt, pn, obs, h1, h2, h3, h4, h5⟩ := h
  refine ⟨dx, pt, pn, h1, h2, rep_list (SqL.of h3) ?_⟩
  have := reps_near (K := K) (f := fun k => ii (Gr.nb (eds ties) k)) (s := 0) (obs := obs) fun k x hx => by
    rw [Nat.zero_add, ← adj_nb ok.ok]
    exact h5 k x hx
  rw [h4, ← List.range_eq_range'] at this
  exact this
end
theorem mem_ii {xs : List Nat} {m : Int} : m ∈ ii xs ↔ ∃ k : Nat, k ∈ xs ∧ m = k := by
  unfold ii
  rw [List.mem_map]
  constructor
  · rintro ⟨k, hk, rfl⟩
    exact ⟨k, hk, rfl⟩
  · rintro ⟨k, hk, rfl⟩
    exact ⟨k, hk, rfl⟩
theorem mem_iiN {xs : List Nat} {k : Nat} : (k : Int) ∈ ii xs ↔ k ∈ xs := by
  rw [mem_ii]
  constructor
  · rintro ⟨j, hj, e⟩
    rw [show k = j by omega]
    exact hj
  · exact fun h => ⟨k, h, rfl⟩
theorem ii_nodup {xs : List Nat} (h : xs.Nodup) : (ii xs).Nodup := by
  unfold ii
  exact List.Pairwise.map _ (fun a b ne => by show (a : Int) ≠ b; omega) h
theorem range_pw (n : Nat) : (List.range n).Pairwise (· ≤ ·) := (List.pairwise_le_range)
theorem sort_range {n : Nat} {row : List Nat} {p : Nat → Bool} (nd : row.Nodup) (h : ∀ k, k ∈ row ↔ (k < n ∧ p k = true)) : srtK (fun x : Int => x) (ii row) = ii ((List.range n).filter p) := by
  refine srt_set (f := fun x : Int => x) (fun a b _ _ e => e) srtK_pw ?_ ((srtK_perm.nodup_iff).mpr (ii_nodup nd)) (ii_nodup (List.Pairwise.filter _ List.nodup_range)) fun x => ?_
  · unfold ii
    refine List.Pairwise.map _ (fun a b le => ?_) ((range_pw n).filter p)
    show (a : Int) ≤ b
    omega
  · rw [srtK_mem, mem_ii, mem_ii]
    constructor
    · rintro ⟨k, hk, e⟩
      have := (h k).mp hk
      exact ⟨k, List.mem_filter.mpr ⟨List.mem_range.mpr this.1, this.2⟩, e⟩
    · rintro ⟨k, hk, e⟩
      have := List.mem_filter.mp hk
      exact ⟨k, (h k).mpr ⟨List.mem_range.mp this.1, this.2⟩, e⟩
/-- a web of the law -/
structure Wb (K : PySem.W.Frag) (C : Addr) (H : Hp) (w : Addr) (n : Nat) (ties : List (Tp Int)) : Prop where
  at_ : WebAt K C H w n ties
  ok : TOk n ties
  hn : n ≤ 24
  hl : ties.length ≤ 60
theorem Wb.mono {K : PySem.W.Frag} {C w : Addr} {G H : Hp} {n : Nat} {ties : List (Tp Int)} (e : Ex G H) (h : Wb K C G w n ties) : Wb K C H w n ties := ⟨h.at_.mono e, h.ok, h.hn, h.hl⟩
def near (n : Nat) (E : List (Nat × Nat)) (k : Nat) : List Nat := (List.range n).filter fun o => decide (o ∈ Gr.nb E k)
section
variable {P : Program} {w : World} {K : PySem.W.Frag} {mg : Str → Option Value} {base : Heap} {a : Ad}
theorem fld_places (T : Txt P K mg a) {G H : Hp} {σ : L2.St} {te : TE} {w dx pt pn : Addr} {n : Nat} (h : EV K te σ H (.ref w)) (h1 : G w = some (.ins a.C_Web dx [("places", .int n), ("ties", .ref pt), ("near", .ref pn)])) (e : Ex G H) : ER K (tFld K te "places") σ H (n : Int) := (ev_fld h h1 e T.cl_Web T.na_Web_places rfl).er (rep_int _)
theorem fld_near (T : Txt P K mg a) {G H : Hp} {σ : L2.St} {te : TE} {w dx pt pn : Addr} {n : Nat} (h : EV K te σ H (.ref w)) (h1 : G w = some (.ins a.C_Web dx [("places", .int n), ("ties", .ref pt), ("near", .ref pn)])) (e : Ex G H) : EV K (tFld K te "near") σ H (.ref pn) := ev_fld h h1 e T.cl_Web T.na_Web_near rfl
end
theorem L_all {α : Type} {p : α → Bool} {xs : List α} (h : ∀ x, x ∈ xs → p x = true) : xs.all p = true := List.all_eq_true.mpr h
/-! webs made -/
theorem webT_TOk {n : Nat} {ts : List (Tp Int)} (h : webBad n ts = none) : TOk n (webT ts) ∧ n ≤ 24 ∧ (webT ts).length ≤ 60 := by
  unfold webBad at h
  by_cases z : (n : Int) < 0 ∨ 24 < (n : Int) ∨ 60 < ts.length
  · rw [if_pos z] at h; cases h
  · rw [if_neg z] at h
    have hT := (wbad_none h).1
    exact ⟨⟨webT_ok hT, (srtK_perm.nodup_iff).mpr hT.nd⟩, by omega, by rw [webT_len]; omega⟩
theorem Wb.of {K : PySem.W.Frag} {C x : Addr} {H : Hp} {n : Nat} {ts : List (Tp Int)} (h : webBad n ts = none) (at_ : WebAt K C H x n (webT ts)) : Wb K C H x n (webT ts) := ⟨at_, (webT_TOk h).1, (webT_TOk h).2.1, (webT_TOk h).2.2⟩
/-- Web(n, v) -/
theorem mk_web {K : PySem.W.Frag} {C N : Addr} {n : Int} {v : V} {ts : List (Tp Int)} {H : Hp} {Q : Addr → Hp → Prop} {E : XK} (r : Rep K H v ts) (h2 : Two ts) (hz : ts.length ≤ 50000) (good : ∀ (m : Nat) x H', (m : Int) = n → webBad n ts = none → H x = none → Ex H H' → Wb K C H' x m (webT ts) → (∀ q ws, H q = some (.lst ws) → Wb K C (Z.cut H' q) x m (webT ts)) → Q x H')
    (bad : ∀ k, webBad n ts = some k → ∀ d H', Ex H H' → H' d = some (.xd [("index", .int k)]) → E (.ref N) (some d) H') : ∀ x dx, H x = none → H dx = none → dx ≠ x → spWebI K C N [.ref x, .int n, v] (upd (upd H dx (.own x)) x (.ins C dx [])) (fun v H2 => v = .non ∧ Q x H2) E := fun x dx hx hdx hne => by
  have f1 : Ex H (upd H dx (.own x)) := Evl.Ex.new hdx
  have hx' : (upd H dx (.own x)) x = none := by rw [upd_ne (Ne.symm hne)]; exact hx
  have f2 : Ex (upd H dx (.own x)) (upd (upd H dx (.own x)) x (.ins C dx [])) := Evl.Ex.new hx'
  refine ⟨x, n, v, ts, rfl, ⟨dx, upd_same⟩, r.mono (f1.trans f2), h2, hz, fun hb m H' hm ex at_ fr => ⟨rfl, ?_⟩, fun k hk d H' ex hd => bad k hk d H' ((f1.trans f2).trans ex) hd⟩
  rw [cut_updn hx'] at ex
  subst hm
  exact good m x H' rfl hb hx (f1.trans (ex.trans cut_ex)) (Wb.of hb at_) fun b ws hb' => Wb.of hb (fr b ws ((f1.trans f2) _ _ hb'))
def tp2 (x y : Int) : Tp Int := (show List Int from [x, y])
theorem wbad_good {n : Int} : ∀ {ts seen : List (Tp Int)} {i : Nat}, (∀ t, t ∈ ts → 0 ≤ loT t ∧ hiT t < n ∧ loT t ≠ hiT t) → (seen ++ ts.map nrm).Nodup → wbad n ts seen i = none
  | [], _, _, _, _ => rfl
  | t :: ts, seen, i, h, nd => by
    have ht := h t (List.mem_cons_self ..)
    have nd' : ((seen ++ [nrm t]) ++ ts.map nrm).Nodup := by
      rw [List.append_assoc]
      exact nd
    have hn : nrm t ∉ seen := fun z => by
      rw [List.map_cons] at nd
      exact (List.nodup_append.mp nd).2.2 _ z _ (List.mem_cons_self ..) rfl
    unfold wbad
    rw [if_neg ?_]
    · exact wbad_good (fun u hu => h u (List.mem_cons_of_mem _ hu)) nd'
    · unfold badT
      simp only [Bool.or_eq_true, decide_eq_true_eq]
      rintro (z | z | z | z)
      · omega
      · omega
      · exact ht.2.2 z
      · exact hn z
section
variable {P : Program} {w : World} {K : PySem.W.Frag} {mg : Str → Option Value} {base : Heap} {a : Ad}
theorem Wb.flds {C x : Addr} {H : Hp} {n : Nat} {ts : List (Tp Int)} (W : Wb K C H x n ts) : ∃ dx pt pn, H x = some (.ins C dx [("places", .int n), ("ties", .ref pt), ("near", .ref pn)]) ∧ Z.Own K H pt ts := by
  obtain ⟨dx, pt, pn, h1, h2, h3⟩ := W.at_.fields W.ok
  exact ⟨dx, pt, pn, h1, h2⟩
theorem er_places (T : Txt P K mg a) {G H : Hp} {σ : L2.St} {te : TE} {x : Addr} {n : Nat} {ts : List (Tp Int)} (h : EV K te σ H (.ref x)) (W : Wb K a.C_Web G x n ts) (e : Ex G H) : ER K (tFld K te "places") σ H (n : Int) := by
  obtain ⟨dx, pt, pn, h1, h2⟩ := W.flds
  exact (ev_fld h h1 e T.cl_Web T.na_Web_places rfl).er (rep_int _)
theorem er_ties (T : Txt P K mg a) {G H : Hp} {σ : L2.St} {te : TE} {x : Addr} {n : Nat} {ts : List (Tp Int)} (h : EV K te σ H (.ref x)) (W : Wb K a.C_Web G x n ts) (e : Ex G H) : ER K (tFld K te "ties") σ H ts := by
  obtain ⟨dx, pt, pn, h1, h2⟩ := W.flds
  exact (em_fld h h1 e T.cl_Web T.na_Web_ties rfl h2).er
theorem Wb.ty (T : Txt P K mg a) {G H : Hp} {x : Addr} {n : Nat} {ts : List (Tp Int)} (W : Wb K a.C_Web G x n ts) (e : Ex G H) : ∀ H2, Ex H H2 → TyX K H2 (.ref x) (.ref a.C_Web) := fun H2 e2 => by
  obtain ⟨dx, pt, pn, h1, h2⟩ := W.flds
  exact T.ty_Web H2 x dx _ ((e.trans e2) _ _ h1)
end
set_option Elab.async false
set_option linter.all false
set_option maxRecDepth 100000
set_option maxHeartbeats 400000
set_option autoImplicit false
open PySem L2 Z
open Evl (Ex)
def Small (x : List (Tp Int)) : Prop := x.length ≤ 50000 ∧ ∀ t : Tp Int, t ∈ x → List.length t ≤ 50000
/-! ### a Row -/
def RowAt (K : PySem.W.Frag) (C : Addr) (H : Hp) (r l : Addr) (xs : List (Tp Int)) : Prop := (∃ dx, H r = some (.ins C dx [("settings", .ref l)])) ∧ Own K H l xs
/-- the first row that is as long as no other: its place; -1: none -/
def badFrom (n : Nat) : List (Tp Int) → Nat → Option Int
  | [], _ => none
  | t :: ts, i => if List.length t = n then badFrom n ts (i + 1) else some i
def badAt : List (Tp Int) → Option Int
  | [] => some (-1)
  | t :: ts => badFrom (List.length t) (t :: ts) 0
theorem badFrom_none {n : Nat} {xs : List (Tp Int)} {i : Nat} (h : ∀ t : Tp Int, t ∈ xs → List.length t = n) : badFrom n xs i = none := by
  induction xs generalizing i with
  | nil => rfl
  | cons t ts ih =>
    unfold badFrom
    rw [if_pos (h t (List.mem_cons_self ..))]
    exact ih fun u hu => h u (List.mem_cons_of_mem _ hu)
theorem badFrom_at {n : Nat} {xs : List (Tp Int)} {i j : Nat} {t : Tp Int} (h : ∀ k u, k < j → xs[k]? = some u → List.length u = n) (hj : xs[j]? = some t) (ht : List.length t ≠ n) : badFrom n xs i = some ((i + j : Nat) : Int) := by
  induction xs generalizing i j with
  | nil => cases hj
  | cons u us ih =>
    unfold badFrom
    cases j with
    | zero =>
      cases hj
      rw [if_neg ht]
      rfl
    | succ j =>
      rw [if_pos (h 0 u (Nat.succ_pos _) rfl), ih (j := j) (fun k v hk hv => h (k + 1) v (Nat.succ_lt_succ hk) hv) hj]
      congr 2
      omega
section
variable {P : Program} {w : World} {K : PySem.W.Frag} {mg : Str → Option Value} {base : Heap} {a : Ad}
theorem RowAt.mono {C : Addr} {G H : Hp} {r l : Addr} {xs : List (Tp Int)} (e : Ex G H) (h : RowAt K C G r l xs) : RowAt K C H r l xs := by
  obtain ⟨⟨dx, h1⟩, h2⟩ := h
  exact ⟨⟨dx, e _ _ h1⟩, h2.mono e⟩
theorem RowAt.other {C : Addr} {H : Hp} {r l q : Addr} {xs : List (Tp Int)} {ws : List V} {o : HO} (h : RowAt K C H r l xs) (hq : H q = some (.lst ws)) (ne : q ≠ l) : RowAt K C (upd H q o) r l xs := by
  obtain ⟨⟨dx, h1⟩, h2⟩ := h
  exact ⟨⟨dx, by rw [upd_ne (fun z => by rw [z, hq] at h1; cases h1)]; exact h1⟩, h2.other hq ne⟩
theorem ok_NotARoww_initw (T : Txt P K mg a) : FnOk P w K mg base CX0 1 a.f_NotARoww_initw a.d_NotARoww_initw ["self", "index"] (spX1 K a.C_NotARow "index") :=
  T.F_NotARoww_initw.ok sc_NotARoww_initw len_X1 fun A outer s H vs Q E hr h => ⟨_, pssa_supE T.F_NotARoww_initw sc_NotARoww_initw rfl rfl (pa_cons pe_str pa_nil) (pssa_of (pss_one (ps_ost (pv 0) (pv 1)))),
    read_X1 T.S_NotARoww_initw T.nf_NotARow_index h (len_X1 _ _ _ _ h).symm⟩
/-- Row(settings): a row, or the wish for NotARow -/
def spRow (K : PySem.W.Frag) (C N : Addr) : Sp := fun vs H Q E => ∃ x v xs, vs = [.ref x, v] ∧ (∃ dx, H x = some (.ins C dx [])) ∧ Rep K H v xs ∧ Small xs ∧
  (badAt xs = none → ∀ H' l, H l = none → Ex (cut H x) (cut H' x) → RowAt K C H' x l xs → Q .non H') ∧
  (∀ k, badAt xs = some k → ∀ d H', Ex H H' → H' d = some (.xd [("index", .int k)]) → E (.ref N) (some d) H')
theorem ok_Roww_initw (T : Txt P K mg a) : FnOk P w K mg base (L2N.CX P w) 3 a.f_Roww_initw a.d_Roww_initw ["self", "settings"] (spRow K a.C_Row a.C_NotARow) := by
  refine okXN T.F_Roww_initw sc_Roww_initw (fun vs H Q E (h : spRow K a.C_Row a.C_NotARow vs H Q E) => by obtain ⟨x, v, xs, rfl, _⟩ := h; rfl) (fun cdv A outer s H vs Q E hr h => ⟨_, (pss_cons (ps_if (pt_not (k_pt_truth (K := K) rfl (pt_truth (pv 1) (by intro _; rfl))))
  (pss_one (L2N.ps_raise rfl (L2N.takes_of rfl rfl rfl rfl) (pmk_oexN T.S_NotARoww_initw.T T.i_NotARoww_initw T.ti_NotARoww_initw (ok_NotARoww_initw T) (hr.mono (by decide)) T.b_NotARoww_initw .nil pass0 (by rfl) T.m_NotARow (pa_cons (pe_un un_neg pe_int) pa_nil))))
  pss_nil)
  (pss_cons (ps_for (passes_of rfl) rfl (k_pi_enum (K := K) rfl (pi_enum (by rfl) T.z_enumerate (pa_cons (pv 1) pa_nil))) (k_pg_tup (K := K) rfl (pg_tup (n := 2) (by rfl) (pgs_cons (pg_name (i := 2) sc_Roww_initw.nd rfl (Or.inl rfl)) (pgs_cons (pg_name (i := 3) sc_Roww_initw.nd rfl (Or.inl rfl)) pgs_nil))))
  (pss_one (ps_if (pt_cmpR op_ne (pe_callB (k_call_len_seq (K := K) rfl) (by rfl) T.z_len (by decide +kernel) (pa_cons (pv 3) pa_nil)) (pe_callB (k_call_len_seq (K := K) rfl) (by rfl) T.z_len (by decide +kernel) (pa_cons (pe_ix (k_ix_list (K := K) rfl) (pv 1) pe_int (fun _ _ => rfl)) pa_nil)) (nomark _))
  (pss_one (L2N.ps_raise rfl (L2N.takes_of rfl rfl rfl rfl) (pmk_oexN T.S_NotARoww_initw.T T.i_NotARoww_initw T.ti_NotARoww_initw (ok_NotARoww_initw T) (hr.mono (by decide)) T.b_NotARoww_initw .nil pass0 (by rfl) T.m_NotARow (pa_cons (pv 2) pa_nil))))
  pss_nil)))
  (pss_one (k_ps_fld (K := K) rfl (ps_fld (pv 0) (pe_callTy (k_call_list_of (K := K) rfl) (by rfl) T.z_list (by decide +kernel) (pa_cons (pv 1) pa_nil)) rfl))))), ?_⟩)
  obtain ⟨r, v, xs, rfl, ⟨dx, hr0⟩, rv, ⟨hs1, hs2⟩, kq, ke⟩ := h
  refine q_if (K := K) (b := xs.isEmpty) ((et_not (et_truL (xs := xs) (by walk_at "ev"))).is (by simp)) (fun hb H1 e1 => ?_) (fun hb H1 e1 => ?_)
  · have hx : xs = [] := by simpa using hb
    subst hx
    refine mk_X1 (K := K) (v := .int (-1)) (ER.evI (by walk_at "ev")) fun d H2 _ e2 hd => ke _ rfl d H2 (e1.trans e2) hd
  · obtain ⟨t0, ts, rfl⟩ : ∃ t0 ts, xs = t0 :: ts := by
      cases xs with
      | nil => cases hb
      | cons t ts => exact ⟨t, ts, rfl⟩
    have hx0 : atI (t0 :: ts) 0 = some t0 := atI_ofN (k := 0) rfl
    refine q_enum (K := K) (xs := t0 :: ts) (by walk_at "ev") fun p vs H2 e2 sq rs => ⟨H2, fun i σ' _ => (∃ o1 o2, σ' = [some (.ref r), some v, o1, o2]) ∧ ∀ k u, k < i → (t0 :: ts)[k]? = some u → List.length u = List.length t0, Ex.refl _, sq, rs, ⟨⟨_, _, rfl⟩, fun k u h => absurd h (Nat.not_lt_zero _)⟩, ?_, ?_⟩
    · rintro i x u σ' H3 H4 hi e3 e4 ru ⟨⟨o1, o2, rfl⟩, hk⟩
      have hxl := hs2 x (List.mem_of_getElem? hi)
      have e04 : Ex H H4 := e1.trans (e2.trans (e3.trans e4))
      have e24 : Ex H2 H4 := e3.trans e4
      refine s_if (K := K) (b := !decide ((List.length x : Int) = List.length t0)) (by walk_at "ev") (fun hb H5 e5 => ?_) (fun hb H5 e5 => ?_)
      · refine mk_X1 (K := K) (v := .int i) (ER.evI (by walk_at "ev")) fun d H6 _ e6 hd => ke i ?_ d H6 (e04.trans (e5.trans e6)) hd
        have hne : List.length x ≠ List.length t0 := by
          have := of_decide_eq_false (Bool.not_eq_true' _ ▸ hb)
          omega
        show badFrom _ _ 0 = _
        rw [badFrom_at hk hi hne, Nat.zero_add]
      · refine ⟨e24.trans e5, ⟨_, _, rfl⟩, fun k u hk' hu => ?_⟩
        rcases Nat.lt_succ_iff_lt_or_eq.mp hk' with h | h
        · exact hk k u h hu
        · subst h
          rw [hi] at hu
          cases hu
          have := of_decide_eq_true (Bool.not_eq_false' _ ▸ hb)
          omega
    · rintro σ' H3 e3 ⟨⟨o1, o2, rfl⟩, hk⟩
      have e03 : Ex H H3 := e1.trans (e2.trans e3)
      have hgood : badAt (t0 :: ts) = none := badFrom_none fun t ht => by
        obtain ⟨k, hlt, hk'⟩ := List.getElem_of_mem ht
        exact hk k t hlt (by rw [List.getElem?_eq_getElem hlt, hk'])
      refine el_list (K := K) (xs := t0 :: ts) (er_var rfl rv e03) H3 (Ex.refl _) _ fun l H4 hl e4 o4 => ?_
      have hr4 : H4 r = some (.ins a.C_Row dx []) := (e03.trans e4) _ _ hr0
      have hlr : l ≠ r := fun z => by rw [z, e03 _ _ hr0] at hl; cases hl
      refine ⟨_, rfl, r, a.C_Row, dx, [], rfl, hr4, T.cl_Row, T.na_Row_settings, by decide, kq hgood _ l (fresh_back e03 hl) ?_ ⟨⟨dx, upd_same⟩, ?_⟩⟩
      · rw [cut_upd]
        exact cut_mono (e03.trans e4)
      · obtain ⟨ws, h1, h2⟩ := o4.ex
        have hc : cut H4 l r = some (.ins a.C_Row dx []) := by rw [cut_ne (Ne.symm hlr)]; exact hr4
        exact ⟨ws, by rw [upd_ne hlr]; exact h1, by rw [cut_upd_ne (Ne.symm hlr)]; exact h2.imm (Tups.insU hc)⟩
theorem RowAt.em (T : Txt P K mg a) {G H : Hp} {r l : Addr} {xs : List (Tp Int)} {te : TE} {σ : L2.St} (h : EV K te σ H (.ref r)) (at_ : RowAt K a.C_Row G r l xs) (e : Ex G H) : EM K (tFld K te "settings") σ H xs := by
  obtain ⟨⟨dx, h1⟩, h2⟩ := at_
  exact em_fld h h1 e T.cl_Row T.na_Row_settings rfl h2
theorem mk_core {C N : Addr} {H1 : Hp} {v : V} {xs : List (Tp Int)} {Q : VK} {E : XK} (r : Rep K H1 v xs) (hs : Small xs) (k : badAt xs = none → ∀ r l H2, H1 r = none → H1 l = none → Ex H1 H2 → RowAt K C H2 r l xs → Q (.ref r) H2)
    (ke : ∀ k, badAt xs = some k → ∀ d H2, Ex H1 H2 → H2 d = some (.xd [("index", .int k)]) → E (.ref N) (some d) H2) :
    ∀ x dx, H1 x = none → H1 dx = none → dx ≠ x → spRow K C N [.ref x, v] (upd (upd H1 dx (.own x)) x (.ins C dx [])) (fun v H2 => v = .non ∧ Q (.ref x) H2) E := fun x dx hx hdx hne => by
  have e1 : Ex H1 (upd H1 dx (.own x)) := Evl.Ex.new hdx
  have hx' : (upd H1 dx (.own x)) x = none := by rw [upd_ne (Ne.symm hne)]; exact hx
  have e2 : Ex (upd H1 dx (.own x)) (upd (upd H1 dx (.own x)) x (.ins C dx [])) := Evl.Ex.new hx'
  refine ⟨x, v, xs, rfl, ⟨dx, upd_same⟩, r.mono (e1.trans e2), hs, fun hb H' l hl ex at_ => ⟨rfl, k hb x l H' hx (fresh_back (e1.trans e2) hl) ?_ at_⟩, fun i hi d H' e' hd => ke i hi d H' ((e1.trans e2).trans e') hd⟩
  rw [cut_updn hx'] at ex
  exact e1.trans (ex.trans cut_ex)
end
set_option Elab.async false
set_option linter.all false
set_option maxRecDepth 100000
set_option maxHeartbeats 1600000
set_option autoImplicit false
open PySem L2 Z
open Evl (Ex)
/-- a proper colouring -/
def colB (n : Nat) (ties : List (Tp Int)) (c : Int) (s : List Int) : Bool := (decide ((s.length : Int) = n) && s.all fun v => decide (0 ≤ v) && decide (v < c)) && ties.all fun t => !decide (s.getD ((L t).getD 0 0).toNat 0 = s.getD ((L t).getD 1 0).toNat 0)
theorem colB_prp {n : Nat} {ties : List (Tp Int)} {c : Int} {s : List Int} : colB n ties c s = true ↔ Gr.Prp (eds ties) n c s := by
  unfold colB
  simp only [Bool.and_eq_true, decide_eq_true_eq, List.all_eq_true, Bool.not_eq_true', decide_eq_false_iff_not]
  constructor
  · rintro ⟨⟨h1, h2⟩, h3⟩
    refine ⟨by omega, h2, fun e he => ?_⟩
    obtain ⟨t, ht, rfl⟩ := List.mem_map.mp he
    exact h3 t ht
  · rintro ⟨h1, h2, h3⟩
    exact ⟨⟨by omega, h2⟩, fun t ht => h3 _ (List.mem_map.mpr ⟨t, ht, rfl⟩)⟩
def putT (s : Tp Int) (p v : Int) : Tp Int := (show Tp Int from (L s).set p.toNat v)
theorem putT_eq {s : Tp Int} {p : Nat} {v : Int} (h : p < (L s).length) : (L s).take p ++ [v] ++ (L s).drop (p + 1) = (L s).set p v := by
  rw [List.set_eq_take_append_cons_drop, if_pos h, List.append_assoc]
  rfl
section
variable {P : Program} {w : World} {K : PySem.W.Frag} {mg : Str → Option Value} {base : Heap} {a : Ad}
theorem er_put {ta tb tc : TE} {σ : L2.St} {H : Hp} {s : Tp Int} {p : Nat} {v : Int} (h1 : ER K ta σ H s) (h2 : ER K tb σ H (p : Int)) (h3 : ER K tc σ H v) (hp : p < (L s).length) (hl : (L s).length ≤ 1000) :
    ER K (tOp (rCatA K) (tOp (rCatA K) (tSl (rSlA K) ta tNoPart (tPart tb)) (tTup (tCons tc tNil))) (tSl (rSlA K) ta (tPart (tOp (rI0 fun i j => .int (i + j)) tb (tC (.int 1)))) tNoPart)) σ H (putT s p v) := by
  have c1 : cutD (L s) none (some (p : Int)) = (L s).take p := cut_take (by omega)
  have c2 : cutD (L s) (some ((p : Int) + 1)) none = (L s).drop (p + 1) := by rw [show (p : Int) + 1 = ((p + 1 : Nat) : Int) by omega]; exact cut_drop (by omega)
  refine ER.is (er_catT (xs := (show Tp Int from (L s).take p ++ [v])) (ys := (show Tp Int from (L s).drop (p + 1))) (ER.is (er_catT (xs := (show Tp Int from (L s).take p)) (ys := (show Tp Int from [v])) (ER.is (er_slT (xs := s) h1 eo_none (eo_some h2)) c1) (er_tup (α := Int) (xs := [v]) (ea_cons h3 ea_nil)) ?_) rfl) (ER.is (er_slT (xs := s) h1 (eo_some (er_add h2 er_int)) eo_none) c2) ?_) ?_
  · show (List.take p (L s)).length + 1 ≤ _
    rw [List.length_take]; omega
  · show (List.take p (L s) ++ [v]).length + (List.drop (p + 1) (L s)).length ≤ _
    rw [List.length_append, List.length_take, List.length_drop]
    simp
    omega
  · exact putT_eq hp
def spPut (K : PySem.W.Frag) : Sp := sp3 K (fun (s : Tp Int) (p v : Int) => 0 ≤ p ∧ p < ((L s).length : Int) ∧ (L s).length ≤ 1000) putT
theorem ok_with_value (T : Txt P K mg a) : FnOk P w K mg base CX0 1 a.f_with_value a.d_with_value ["setting", "position", "value"] (spPut K) := by
  refine T.F_with_value.ok sc_with_value len3 (fun cdv A outer s H vs Q E hr h => ⟨_, (pss_one (ps_ret (pe_op (k_op_catA (K := K) rfl) (pe_op (k_op_catA (K := K) rfl) (pe_slice (k_sl_tupA (K := K) rfl) (pv 0) po_none (po_some (pv 1))) (pe_tup (pa_cons (pv 2) pa_nil))) (pe_slice (k_sl_tupA (K := K) rfl) (pv 0) (po_some (pe_op op_add (pv 1) pe_int)) po_none)))), ?_⟩)
  obtain ⟨v, u, t, s, p, z, rfl, r1, r2, r3, ⟨h0, h1, h2⟩, q⟩ := h
  obtain rfl := Rep.int r2
  obtain rfl := Rep.int r3
  obtain ⟨k, rfl⟩ : ∃ k : Nat, p = k := ⟨p.toNat, by omega⟩
  exact s_ret (K := K) (x := putT s k z) (er_put (er_var rfl r1 (Ex.refl _)) (er_vint rfl) (er_vint rfl) (by omega) h2) q
theorem ok_law_put (T : Txt P K mg a) : FnOk P w K mg base CX0 1 a.f_law_put a.d_law_put ["setting", "at", "value"] (spPut K) := by
  refine T.F_law_put.ok sc_law_put len3 (fun cdv A outer s H vs Q E hr h => ⟨_, (pss_one (ps_ret (pe_op (k_op_catA (K := K) rfl) (pe_op (k_op_catA (K := K) rfl) (pe_slice (k_sl_tupA (K := K) rfl) (pv 0) po_none (po_some (pv 1))) (pe_tup (pa_cons (pv 2) pa_nil))) (pe_slice (k_sl_tupA (K := K) rfl) (pv 0) (po_some (pe_op op_add (pv 1) pe_int)) po_none)))), ?_⟩)
  obtain ⟨v, u, t, s, p, z, rfl, r1, r2, r3, ⟨h0, h1, h2⟩, q⟩ := h
  obtain rfl := Rep.int r2
  obtain rfl := Rep.int r3
  obtain ⟨k, rfl⟩ : ∃ k : Nat, p = k := ⟨p.toNat, by omega⟩
  exact s_ret (K := K) (x := putT s k z) (er_put (er_var rfl r1 (Ex.refl _)) (er_vint rfl) (er_vint rfl) (by omega) h2) q
theorem ok_BadWorldw_initw (T : Txt P K mg a) : FnOk P w K mg base CX0 1 a.f_BadWorldw_initw a.d_BadWorldw_initw ["self", "index"] (spX1 K a.C_BadWorld "index") :=
  T.F_BadWorldw_initw.ok sc_BadWorldw_initw len_X1 fun A outer s H vs Q E hr h => ⟨_, pssa_supE T.F_BadWorldw_initw sc_BadWorldw_initw rfl rfl (pa_cons pe_str pa_nil) (pssa_of (pss_one (ps_ost (pv 0) (pv 1)))),
    read_X1 T.S_BadWorldw_initw T.nf_BadWorld_index h (len_X1 _ _ _ _ h).symm⟩
theorem ok_NotAnAnswerw_initw (T : Txt P K mg a) : FnOk P w K mg base CX0 1 a.f_NotAnAnswerw_initw a.d_NotAnAnswerw_initw ["self", "setting"] (spX1 K a.C_NotAnAnswer "setting") :=
  T.F_NotAnAnswerw_initw.ok sc_NotAnAnswerw_initw len_X1 fun A outer s H vs Q E hr h => ⟨_, pssa_supE T.F_NotAnAnswerw_initw sc_NotAnAnswerw_initw rfl rfl (pa_cons pe_str pa_nil) (pssa_of (pss_one (ps_ost (pv 0) (pv 1)))),
    read_X1 T.S_NotAnAnswerw_initw T.nf_NotAnAnswer_setting h (len_X1 _ _ _ _ h).symm⟩
theorem ok_TooFeww_initw (T : Txt P K mg a) : FnOk P w K mg base CX0 1 a.f_TooFeww_initw a.d_TooFeww_initw ["self", "needed"] (spX1 K a.C_TooFew "needed") :=
  T.F_TooFeww_initw.ok sc_TooFeww_initw len_X1 fun A outer s H vs Q E hr h => ⟨_, pssa_supE T.F_TooFeww_initw sc_TooFeww_initw rfl rfl (pa_cons pe_str pa_nil) (pssa_of (pss_one (ps_ost (pv 0) (pv 1)))),
    read_X1 T.S_TooFeww_initw T.nf_TooFew_needed h (len_X1 _ _ _ _ h).symm⟩
/-- World.__init__ -/
def spWorld (K : PySem.W.Frag) : Sp := fun vs H Q _ => ∃ x C dx fs n, vs = [.ref x, .int n] ∧ H x = some (.ins C dx fs) ∧ fs.length < 1000 ∧ Cls K C ∧ NoAttr K C "size" ∧ Q .non (upd H x (.ins C dx (putF "size" (.int n) fs)))
theorem ok_Worldw_initw (T : Txt P K mg a) : FnOk P w K mg base CX0 1 a.f_Worldw_initw a.d_Worldw_initw ["self", "size"] (spWorld K) := by
  refine T.F_Worldw_initw.ok sc_Worldw_initw (fun vs H Q E (h : spWorld K vs H Q E) => by obtain ⟨x, C, dx, fs, n, rfl, _⟩ := h; rfl) (fun cdv A outer s H vs Q E hr h => ⟨_, (pss_one (k_ps_fld (K := K) rfl (ps_fld (pv 0) (pv 1) rfl))), ?_⟩)
  obtain ⟨x, C, dx, fs, n, rfl, h1, h2, h3, h4, q⟩ := h
  exact ⟨_, rfl, _, rfl, x, C, dx, fs, rfl, h1, h3, h4, h2, q⟩
/-- a world of colours -/
def ColAt (K : PySem.W.Frag) (C CW : Addr) (H : Hp) (x : Addr) (n : Nat) (ties : List (Tp Int)) (c : Int) : Prop := ∃ dx w, H x = some (.ins C dx [("size", .int n), ("web", .ref w), ("colours", .int c)]) ∧ Wb K CW H w n ties
theorem ColAt.mono {C CW x : Addr} {G H : Hp} {n : Nat} {ts : List (Tp Int)} {c : Int} (e : Ex G H) (h : ColAt K C CW G x n ts c) : ColAt K C CW H x n ts c := by
  obtain ⟨dx, w, h1, h2⟩ := h
  exact ⟨dx, w, e _ _ h1, h2.mono e⟩
def colBad (n : Nat) (c : Int) : Bool := decide (14 < (n : Int)) || (decide (c < 1) || decide (8 < c))
def spColI (K : PySem.W.Frag) (C CW N : Addr) : Sp := fun vs H Q E => ∃ (x w : Addr) (n : Nat) (ts : List (Tp Int)) (c : Int), vs = [.ref x, .ref w, .int c] ∧ (∃ dx, H x = some (.ins C dx [])) ∧ Wb K CW H w n ts ∧ Wb K CW (Z.cut H x) w n ts ∧
  (colBad n c = false → ∀ H', Ex (Z.cut H x) (Z.cut H' x) → ColAt K C CW H' x n ts c → Q .non H') ∧ (colBad n c = true → ∀ d H', Ex H H' → H' d = some (.xd [("index", .int (-1))]) → E (.ref N) (some d) H')
theorem ok_Coloursw_initw (T : Txt P K mg a) : FnOk P w K mg base (L2N.CX P w) 3 a.f_Coloursw_initw a.d_Coloursw_initw ["self", "web", "colours"] (spColI K a.C_Colours a.C_Web a.C_BadWorld) := by
  refine T.F_Coloursw_initw.ok sc_Coloursw_initw (fun vs H Q E (h : spColI K a.C_Colours a.C_Web a.C_BadWorld vs H Q E) => by obtain ⟨x, w, n, ts, c, rfl, _⟩ := h; rfl) (fun A outer s H vs Q E hr h => ⟨_, (pssa_cons (ps_if (PW.pt (pw_or (pt_cmpR op_gt (k_pe_fld (K := K) rfl (pe_fld (pv 1) (by rfl))) (k_pe_cval (K := K) rfl (ClX.pe_cval (pe_glob (v := .ref a.C_Colours) (by rfl) T.m_Colours rfl))) (nomark _)) (pw_or (pt_cmpR op_lt (pv 2) pe_int (nomark _)) (pw_or1 (pt_cmpR op_gt (pv 2) (k_pe_cval (K := K) rfl (ClX.pe_cval (pe_glob (v := .ref a.C_Colours) (by rfl) T.m_Colours rfl))) (nomark _))))))
  (pss_one (L2N.ps_raise rfl (L2N.takes_of rfl rfl rfl rfl) (pmk_oexN T.S_BadWorldw_initw.T T.i_BadWorldw_initw T.ti_BadWorldw_initw (ok_BadWorldw_initw T) (hr.mono (by decide)) T.b_BadWorldw_initw .nil pass0 (by rfl) T.m_BadWorld (pa_cons (pe_un un_neg pe_int) pa_nil))))
  pss_nil)
  (pssa_supM T.F_Coloursw_initw sc_Coloursw_initw rfl rfl (ok_Worldw_initw T) (hr.mono (by decide)) T.b_Worldw_initw pass0 (pa_cons (k_pe_fld (K := K) rfl (pe_fld (pv 1) (by rfl))) pa_nil) (pssa_of (pss_cons (k_ps_fld (K := K) rfl (ps_fld (pv 0) (pv 1) rfl))
  (pss_one (k_ps_fld (K := K) rfl (ps_fld (pv 0) (pv 2) rfl))))))), ?_⟩)
  obtain ⟨x, w, n, ts, c, rfl, ⟨dx, hx0⟩, W, Wc, q, ke⟩ := h
  have tst : ∀ {σ : L2.St}, σ[1]? = some (some (.ref w)) → σ[2]? = some (some (.int c)) → ET K _ σ H (colBad n c) := fun h1 h2 => et_orU (et_test (er_gt (er_places T (ev_var h1) W (Ex.refl _)) (er_cval T.cr_Colours T.cv_Colours_MOST_PLACES))) (et_orU (et_test (er_lt (er_vint h2) er_int)) (et_test (er_gt (er_vint h2) (er_cval T.cr_Colours T.cv_Colours_MOST_COLOURS))))
  refine q_if (K := K) (tst rfl rfl) (fun hb H1 e1 => ?_) (fun hb H1 e1 => ?_)
  · exact mk_X1 (K := K) (v := .int (-1)) (ER.evI (er_neg er_int)) fun d H2 _ e2 hd => ke hb d H2 (e1.trans e2) hd
  · have hx1 := e1 _ _ hx0
    refine ⟨x, a.C_Colours, dx, [], rfl, hx1, T.S_Coloursw_initw, fun qm hqm hqx => ?_⟩
    have em := Evl.Ex.new (o := .met a.f_Worldw_initw x) hqm
    refine (er_places T (ev_var (i := 1) rfl) W (e1.trans em)).evI _ (Ex.refl _) _ fun H2 e2 => ?_
    have hx2 : H2 x = some (.ins a.C_Colours dx []) := (em.trans e2) _ _ hx1
    refine ⟨e2 _ _ upd_same, x, a.C_Colours, dx, [], n, rfl, hx2, by decide, T.cl_Colours, T.na_Colours_size, ?_⟩
    refine ⟨_, rfl, _, rfl, x, a.C_Colours, dx, _, rfl, upd_same, T.cl_Colours, T.na_Colours_web, by show 1 < 1000; decide, ?_⟩
    refine ⟨_, rfl, _, rfl, x, a.C_Colours, dx, _, rfl, upd_same, T.cl_Colours, T.na_Colours_colours, by show 2 < 1000; decide, ?_⟩
    have e02 : Ex H H2 := e1.trans (em.trans e2)
    have cx : Ex (Z.cut H x) (upd (upd (upd H2 x (.ins a.C_Colours dx (putF "size" (.int n) []))) x (.ins a.C_Colours dx (putF "web" (.ref w) (putF "size" (.int n) [])))) x (.ins a.C_Colours dx (putF "colours" (.int c) (putF "web" (.ref w) (putF "size" (.int n) []))))) :=
      ex_mut (ex_mut (ex_mut (cut_ex.trans e02) cut_same) cut_same) cut_same
    exact q hb _ (ex_cut cx cut_same) ⟨dx, w, upd_same, Wc.mono cx⟩
end
set_option Elab.async false
set_option linter.all false
set_option maxRecDepth 100000
set_option maxHeartbeats 1600000
set_option autoImplicit false
open PySem L2 Z
open Evl (Ex)
theorem sAt {s : List Int} {k : Nat} (h : k < s.length) : s[k]? = some (s.getD k 0) := by rw [List.getD_eq_getElem?_getD, List.getElem?_eq_getElem h]; rfl
section
variable {P : Program} {w : World} {K : PySem.W.Frag} {mg : Str → Option Value} {base : Heap} {a : Ad}
/-- an argument of which R1 is told -/
theorem as_p {te : TE} {t : TA} {σ : L2.St} {H : Hp} {R1 : V → Hp → Prop} {R : List V → Hp → Prop} (mo : ∀ v G H', Ex G H' → R1 v G → R1 v H') (h : ∀ H1, Ex H H1 → ∀ Q : VK, (∀ v H2, Ex H1 H2 → R1 v H2 → Q v H2) → te σ H1 Q) (hr : EAs K t σ H R) : EAs K (tCons te t) σ H fun vs H => ∃ v ws, vs = v :: ws ∧ R1 v H ∧ R ws H := fun H1 e Q q =>
  h H1 e _ fun v H2 e2 rv => hr H2 (e.trans e2) _ fun vs H3 e3 r => q _ H3 (e2.trans e3) ⟨v, vs, rfl, mo _ _ _ e3 rv, r⟩
def spIsCol (K : PySem.W.Frag) (C CW : Addr) : Sp := fun vs H Q _ => ∃ (x : Addr) (n : Nat) (ts : List (Tp Int)) (c : Int) (v : V) (s : Tp Int), vs = [.ref x, v] ∧ ColAt K C CW H x n ts c ∧ Rep K H v s ∧ (L s).length ≤ 1000 ∧ ∀ H', Ex H H' → Q (.bl (colB n ts c (L s))) H'
theorem ok_Colours_is_answer (T : Txt P K mg a) : FnOk P w K mg base CX0 1 a.f_Colours_is_answer a.d_Colours_is_answer ["self", "setting"] (spIsCol K a.C_Colours a.C_Web) := by
  refine T.F_Colours_is_answer.ok sc_Colours_is_answer (fun vs H Q E (h : spIsCol K a.C_Colours a.C_Web vs H Q E) => by obtain ⟨x, n, ts, c, v, s, rfl, _⟩ := h; rfl) (fun cdv A outer s H vs Q E hr h => ⟨_, (pss_cons (ps_if (PW.pt (pw_or (pt_cmpR op_ne (pe_callB (k_call_len_seq (K := K) rfl) (by rfl) T.z_len (by decide +kernel) (pa_cons (pv 1) pa_nil)) (k_pe_fld (K := K) rfl (pe_fld (pv 0) (by rfl))) (nomark _)) (pw_or1 (pt_not (pt_val (pe_callB (k_cr_all (K := K) rfl rfl) (by rfl) T.z_all (by decide +kernel) (pa_cons (pe_lc (own := [("value", 4)]) rfl sc_Colours_is_answer.nd (k_pi_tup (K := K) rfl (pv 1)) (blkOk_by (own := [("value", 4)]) (N := N_Colours_is_answer) (sc := defScope s_Colours_is_answer) (by decide +kernel)) (fun _ _ _ _ _ => (pg_name (i := 4) sc_Colours_is_answer.nd rfl (Or.inl rfl))) (fun _ _ _ _ _ => pts_nil) (fun _ _ _ _ _ => (pe_chain op_le op_lt pe_int (pv 4) (k_pe_fld (K := K) rfl (pe_fld (pv 0) (by rfl)))))) pa_nil)))))))
  (pss_one (ps_ret pe_bl))
  pss_nil)
  (pss_one (ps_ret (pe_callB (k_cr_all (K := K) rfl rfl) (by rfl) T.z_all (by decide +kernel) (pa_cons (pe_lc (own := [("low", 2), ("high", 3)]) rfl sc_Colours_is_answer.nd (k_pi_list (K := K) rfl (k_pe_fld (K := K) rfl (pe_fld (k_pe_fld (K := K) rfl (pe_fld (pv 0) (by rfl))) (by rfl)))) (blkOk_by (own := [("low", 2), ("high", 3)]) (N := N_Colours_is_answer) (sc := defScope s_Colours_is_answer) (by decide +kernel)) (fun _ _ _ _ _ => (k_pg_tup (K := K) rfl (pg_tup (n := 2) (by rfl) (pgs_cons (pg_name (i := 2) sc_Colours_is_answer.nd rfl (Or.inl rfl)) (pgs_cons (pg_name (i := 3) sc_Colours_is_answer.nd rfl (Or.inl rfl)) pgs_nil))))) (fun _ _ _ _ _ => pts_nil) (fun _ _ _ _ _ => (pe_cmpR op_ne (pe_ix (k_ix_tup (K := K) rfl) (pv 1) (pv 2) (fun _ _ => rfl)) (pe_ix (k_ix_tup (K := K) rfl) (pv 1) (pv 3) (fun _ _ => rfl)) (nomark _)))) pa_nil))))), ?_⟩)
  obtain ⟨x, n, ts, c, v, s, rfl, ⟨dx, w, h1, W⟩, r, hl, q⟩ := h
  have hW := W.hl
  have size : ∀ {σ : L2.St} {G : Hp}, σ[0]? = some (some (.ref x)) → Ex H G → ER K (tFld K (tVar 0) "size") σ G (n : Int) := fun h e => (ev_fld (ev_var h) h1 e T.cl_Colours T.na_Colours_size rfl).er (rep_int _)
  have cols : ∀ {σ : L2.St} {G : Hp}, σ[0]? = some (some (.ref x)) → Ex H G → ER K (tFld K (tVar 0) "colours") σ G c := fun h e => (ev_fld (ev_var h) h1 e T.cl_Colours T.na_Colours_colours rfl).er (rep_int _)
  have web : ∀ {σ : L2.St} {G : Hp}, σ[0]? = some (some (.ref x)) → Ex H G → EV K (tFld K (tVar 0) "web") σ G (.ref w) := fun h e => ev_fld (ev_var h) h1 e T.cl_Colours T.na_Colours_web rfl
  refine q_if (K := K) (b := !decide (((L s).length : Int) = n) || !((L s).all fun v => decide (0 ≤ v) && decide (v < c))) (et_or (et_test (er_neI (ed_lenT (er_var (x := s) rfl r (Ex.refl _))) (size rfl (Ex.refl _)))) fun hb => et_not (et_B (ER.is (er_all (EL.er (el_genA (xs := L s) (f := fun v => decide (0 ≤ v) && decide (v < c)) (in_tup (er_var (x := s) rfl r (Ex.refl _))) (g_name (i := 4) gr_rep) (fun z σ2 H2 hz e2 s2 => ?_) (by omega)))) (by simp [List.all_map, Function.comp_def])))) (fun hb H1 e1 => ?_) (fun hb H1 e1 => ?_)
  · obtain ⟨y, rfl, ry⟩ := s2
    obtain rfl := Rep.int ry
    exact er_chainI (f := fun a b => decide (a ≤ b)) (g := fun a b => decide (a < b)) er_int (er_vint rfl) (cols rfl e2)
  · refine s_retV (K := K) (v := .bl false) ev_c fun H2 e2 => ?_
    have : colB n ts c (L s) = false := by
      unfold colB
      rw [Bool.and_eq_false_iff]
      left
      revert hb
      generalize decide (((L s).length : Int) = n) = A
      generalize ((L s).all fun v => decide (0 ≤ v) && decide (v < c)) = B
      cases A <;> cases B <;> simp
    rw [← this]
    exact q H2 (e1.trans e2)
  · have hb' : (decide (((L s).length : Int) = n) && (L s).all fun v => decide (0 ≤ v) && decide (v < c)) = true := by
      rw [Bool.or_eq_false_iff, Bool.not_eq_false', Bool.not_eq_false'] at hb
      rw [hb.1, hb.2]
      rfl
    have hln : (L s).length = n := by
      rw [Bool.and_eq_true, decide_eq_true_eq] at hb'
      have := hb'.1
      omega
    refine s_ret (K := K) (x := ts.all fun t => !decide ((L s).getD ((L t).getD 0 0).toNat 0 = (L s).getD ((L t).getD 1 0).toNat 0)) (ER.is (er_all (EL.er (el_mapP (xs := ts) (f := fun t => !decide ((L s).getD ((L t).getD 0 0).toNat 0 = (L s).getD ((L t).getD 1 0).toNat 0)) (by decide) (er_ties T (web rfl e1) W e1) (fun t ht => (W.ok.ok t ht).len) (fun t H2 ht e2 => ?_) (by omega)))) (by simp [List.all_map, Function.comp_def])) fun v' H2 e2 r2 => ?_
    · have ok := W.ok.ok t ht
      have t0 := ok.h0
      have t1 := ok.lt
      have t2 := ok.hn
      refine er_neI (er_ixT (xs := s) (er_var rfl r (e1.trans e2)) (er_vint rfl) ?_) (er_ixT (xs := s) (er_var rfl r (e1.trans e2)) (er_vint rfl) ?_)
      · have := at_ofN (sAt (s := L s) (k := ((L t).getD 0 0).toNat) (by omega))
        rw [Int.toNat_of_nonneg (by omega)] at this
        exact this
      · have := at_ofN (sAt (s := L s) (k := ((L t).getD 1 0).toNat) (by omega))
        rw [Int.toNat_of_nonneg (by omega)] at this
        exact this
    · rw [Rep.bool r2]
      have : colB n ts c (L s) = ts.all fun t => !decide ((L s).getD ((L t).getD 0 0).toNat 0 = (L s).getD ((L t).getD 1 0).toNat 0) := by
        unfold colB
        rw [hb', Bool.true_and]
      rw [← this]
      exact q H2 (e1.trans e2)
theorem er_isCol {C CW x : Addr} {E : XK} {G H : Hp} {te tu : TE} {σ : L2.St} {n : Nat} {ts : List (Tp Int)} {c : Int} {s : Tp Int} (h : EV K te σ H (.ref x)) (W : ColAt K C CW G x n ts c) (e : Ex G H) (hu : ER K tu σ H s) (hl : (L s).length ≤ 1000) : ER K (tMeth C "is_answer" (spIsCol K C CW) [] E te (tCons tu tNil)) σ H (colB n ts c (L s)) := by
  obtain ⟨dx, w, h1, _⟩ := id W
  refine er_meth h h1 e rfl (as_r hu as_nil) ?_
  rintro vs H' Q e' ⟨v, _, rfl, rv, rfl⟩ q
  exact ⟨x, n, ts, c, v, s, rfl, W.mono (e.trans e'), rv, hl, fun H2 e2 => q _ H2 e2 (rep_bool _)⟩
def spCheck (K : PySem.W.Frag) (C CW N : Addr) : Sp := fun vs H Q E => ∃ (x : Addr) (n : Nat) (ts : List (Tp Int)) (c : Int) (v : V) (s : Tp Int), vs = [.ref x, v] ∧ ColAt K C CW H x n ts c ∧ Rep K H v s ∧ (L s).length ≤ 1000 ∧ (colB n ts c (L s) = true → ∀ H', Ex H H' → Q .non H') ∧
  (colB n ts c (L s) = false → ∀ u d H', Ex H H' → Rep K H' u s → H' d = some (.xd [("setting", u)]) → E (.ref N) (some d) H')
theorem ok_check_answer (T : Txt P K mg a) : FnOk P w K mg base (L2N.CX P w) 3 a.f_check_answer a.d_check_answer ["world", "setting"] (spCheck K a.C_Colours a.C_Web a.C_NotAnAnswer) := by
  refine okXN T.F_check_answer sc_check_answer (fun vs H Q E (h : spCheck K a.C_Colours a.C_Web a.C_NotAnAnswer vs H Q E) => by obtain ⟨x, n, ts, c, v, s, rfl, _⟩ := h; rfl) (fun cdv A outer s H vs Q E hr h => ⟨_, (pss_one (ps_if (pt_not (pt_val (pe_meth (pv 0) T.cl_Colours T.me_Colours_is_answer (ok_Colours_is_answer T) (hr.mono (by decide)) T.b_Colours_is_answer .nil pass0 (pa_cons (pv 1) pa_nil))))
  (pss_one (L2N.ps_raise rfl (L2N.takes_of rfl rfl rfl rfl) (pmk_oexN T.S_NotAnAnswerw_initw.T T.i_NotAnAnswerw_initw T.ti_NotAnAnswerw_initw (ok_NotAnAnswerw_initw T) (hr.mono (by decide)) T.b_NotAnAnswerw_initw .nil pass0 (by rfl) T.m_NotAnAnswer (pa_cons (pv 1) pa_nil))))
  pss_nil)), ?_⟩)
  obtain ⟨x, n, ts, c, v, s, rfl, W, r, hl, q, ke⟩ := h
  refine s_if (K := K) (et_not (et_B (er_isCol (ev_var rfl) W (Ex.refl _) (er_var rfl r (Ex.refl _)) hl))) (fun hb H1 e1 => ?_) (fun hb H1 e1 => ?_)
  · exact mk_X1R (K := K) (x := s) (er_var rfl r e1) fun u d H2 _ e2 ru hd => ke (by simpa using hb) u d H2 (e1.trans e2) ru hd
  · exact q (by simpa using hb) H1 e1
def spMost (K : PySem.W.Frag) (C : Addr) : Sp := fun vs H Q _ => ∃ (w : Addr) (n : Nat) (ts : List (Tp Int)), vs = [.ref w] ∧ Wb K C H w n ts ∧ ∀ H', Ex H H' → Q (.int (Gr.mostD n (eds ts) : Nat)) H'
theorem ok_most_beside (T : Txt P K mg a) : FnOk P w K mg base CX0 1 a.f_most_beside a.d_most_beside ["web"] (spMost K a.C_Web) := by
  refine T.F_most_beside.ok sc_most_beside (fun vs H Q E (h : spMost K a.C_Web vs H Q E) => by obtain ⟨w, n, ts, rfl, _⟩ := h; rfl) (fun cdv A outer s H vs Q E hr h => ⟨_, (pss_one (ps_ret (pe_callBK (k_cr_maxD (K := K) rfl rfl) (by rfl) T.z_max (by decide +kernel) (pa_cons (pe_lc (own := [("near", 1)]) rfl sc_most_beside.nd (k_pi_list (K := K) rfl (k_pe_fld (K := K) rfl (pe_fld (pv 0) (by rfl)))) (blkOk_by (own := [("near", 1)]) (N := N_most_beside) (sc := defScope s_most_beside) (by decide +kernel)) (fun _ _ _ _ _ => (pg_name (i := 1) sc_most_beside.nd rfl (Or.inl rfl))) (fun _ _ _ _ _ => pts_nil) (fun _ _ _ _ _ => (pe_callB (k_call_len_seq (K := K) rfl) (by rfl) T.z_len (by decide +kernel) (pa_cons (pv 1) pa_nil)))) pa_nil) (pk_cons pe_int pk_nil)))), ?_⟩)
  obtain ⟨w, n, ts, rfl, W, q⟩ := h
  obtain ⟨dx, pt, pn, h1, h2, h3⟩ := W.at_.fields W.ok
  have hn := W.hn
  have hmap : (nears n (eds ts)).map (fun l : List Int => (l.length : Int)) = (List.range n).map fun k => ((Gr.deg (eds ts) k : Nat) : Int) := by
    unfold nears
    rw [List.map_map]
    refine List.map_congr_left fun k _ => ?_
    show ((ii (Gr.nb (eds ts) k)).length : Int) = _
    rw [ii_len]
    rfl
  refine s_ret (K := K) (x := ((Gr.mostD n (eds ts) : Nat) : Int)) (er_maxD (xs := (nears n (eds ts)).map fun l : List Int => (l.length : Int)) (k := 0) (EL.er (el_genA (xs := nears n (eds ts)) (f := fun l : List Int => (l.length : Int)) (in_list ((fld_near T (ev_var rfl) h1 (Ex.refl _)).er h3)) (g_name (i := 1) gr_rep) (fun z σ2 H2 hz e2 s2 => ?_) (by unfold nears; rw [List.length_map, List.length_range]; omega))) er_int ?_) fun v H' e r => ?_
  · obtain ⟨y, rfl, ry⟩ := s2
    exact er_len (xs := z) (er_var rfl ry (Ex.refl _)) rfl
  · rw [hmap]
    rcases Nat.eq_zero_or_pos n with hz | hp
    · subst hz
      exact .inl ⟨rfl, rfl⟩
    · obtain ⟨k, hk, e⟩ := Gr.most_in (E := eds ts) hp
      refine .inr ⟨List.mem_map.mpr ⟨k, List.mem_range.mpr hk, by rw [e]⟩, fun y hy => ?_⟩
      obtain ⟨j, hj, rfl⟩ := List.mem_map.mp hy
      have := Gr.most_ge (E := eds ts) (List.mem_range.mp hj)
      omega
  · rw [Rep.int r]
    exact q H' e
theorem er_most {C w : Addr} {E : XK} {G H : Hp} {te : TE} {σ : L2.St} {n : Nat} {ts : List (Tp Int)} (h : EV K te σ H (.ref w)) (W : Wb K C G w n ts) (e : Ex G H) : ER K (tCall (spMost K C) [] E (tCons te tNil)) σ H ((Gr.mostD n (eds ts) : Nat) : Int) :=
  er_call (as_v h as_nil) fun vs H' Q e' ⟨_, h, h'⟩ q => by
    subst h h'
    exact ⟨w, n, ts, rfl, W.mono (e.trans e'), fun H2 e2 => q _ H2 e2 (rep_int _)⟩
def Spare (E : List (Nat × Nat)) (s : List Int) (p : Nat) (c : Nat) (b z : Int) : Prop := 0 ≤ z ∧ z < c ∧ z ≠ b ∧ ∀ x, Gr.Nb E p x → s.getD x 0 ≠ z
def spSpare (K : PySem.W.Frag) (C : Addr) : Sp := fun vs H Q _ => ∃ (w : Addr) (n : Nat) (ts : List (Tp Int)) (c p : Nat) (v : V) (s : Tp Int) (b : Int), vs = [.ref w, .int c, v, .int p, .int b] ∧ Wb K C H w n ts ∧ Rep K H v s ∧ (L s).length = n ∧ p < n ∧ c ≤ 1000 ∧ Gr.deg (eds ts) p + 2 ≤ c ∧ ∀ z H', Ex H H' → Spare (eds ts) (L s) p c b z → Q (.int z) H'
theorem ok_spare_colour (T : Txt P K mg a) : FnOk P w K mg base CX0 1 a.f_spare_colour a.d_spare_colour ["web", "colours", "setting", "place", "barred"] (spSpare K a.C_Web) := by
  refine T.F_spare_colour.ok sc_spare_colour (fun vs H Q E (h : spSpare K a.C_Web vs H Q E) => by obtain ⟨w, n, ts, c, p, v, s, b, rfl, _⟩ := h; rfl) (fun cdv A outer s H vs Q E hr h => ⟨_, (pss_cons (ps_set (i := 5) sc_spare_colour.nd rfl (Or.inr rfl) (pe_lc (own := [("other", 6)]) rfl sc_spare_colour.nd (k_pi_list (K := K) rfl (pe_ix (k_ix_list (K := K) rfl) (k_pe_fld (K := K) rfl (pe_fld (pv 0) (by rfl))) (pv 3) (fun _ _ => rfl))) (blkOk_by (own := [("other", 6)]) (N := N_spare_colour) (sc := defScope s_spare_colour) (by decide +kernel)) (fun _ _ _ _ _ => (pg_name (i := 6) sc_spare_colour.nd rfl (Or.inl rfl))) (fun _ _ _ _ _ => pts_nil) (fun _ _ _ _ _ => (pe_ix (k_ix_tup (K := K) rfl) (pv 2) (pv 6) (fun _ _ => rfl)))))
  (pss_one (ps_ret (pe_ix (k_ix_list (K := K) rfl) (pe_lc (own := [("colour", 7)]) rfl sc_spare_colour.nd (pi_range1 (by rfl) T.z_range (pa_cons (pv 1) pa_nil)) (blkOk_by (own := [("colour", 7)]) (N := N_spare_colour) (sc := defScope s_spare_colour) (by decide +kernel)) (fun _ _ _ _ _ => (pg_name (i := 7) sc_spare_colour.nd rfl (Or.inl rfl))) (fun _ _ _ _ _ => (pts_one (PW.pt (pw_and (pt_cmpR op_ne (pv 7) (pv 4) (nomark _)) (pw_and1 (pt_cmpR (k_op_notIn_seq (K := K) rfl) (pv 7) (pv 5) (by with_unfolding_all rfl))))))) (fun _ _ _ _ _ => (pv 7))) pe_int (fun _ _ => rfl))))), ?_⟩)
  obtain ⟨w, n, ts, c, p, v, s, b, rfl, W, r, hl, hp, hc, hdeg, q⟩ := h
  obtain ⟨dx, pt, pn, h1, h2, h3⟩ := W.at_.fields W.ok
  have ed := W.ok.ed
  have hn := W.hn
  have hdl : (Gr.nb (eds ts) p).length ≤ 1000 := by have : Gr.deg (eds ts) p = (Gr.nb (eds ts) p).length := rfl; omega
  refine q_setL (K := K) (xs := (ii (Gr.nb (eds ts) p)).map fun o => (L s).getD o.toNat 0) (el_genA (xs := ii (Gr.nb (eds ts) p)) (f := fun o => (L s).getD o.toNat 0) (in_list (er_ixL (xs := nears n (eds ts)) ((fld_near T (ev_var rfl) h1 (Ex.refl _)).er h3) (er_vint rfl) (at_ofN (nears_at hp)))) (g_name (i := 6) gr_rep) (fun z σ2 H2 hz e2 s2 => ?_) (by rw [ii_len]; omega)) fun pl H1 hpl e1 o1 => ?_
  · obtain ⟨y, rfl, ry⟩ := s2
    obtain rfl := Rep.int ry
    obtain ⟨k, hk, rfl⟩ := mem_ii.mp hz
    have hkn : k < n := by
      rcases Gr.mem_nb.mp hk with y | y <;> have := ed.bd _ y <;> omega
    exact er_ixT (xs := s) (er_var rfl r e2) (er_vint rfl) (at_ofN (sAt (s := L s) (k := k) (by omega)))
  generalize htk : (ii (Gr.nb (eds ts) p)).map (fun o => (L s).getD o.toNat 0) = tk at o1
  have htl : tk.length + 2 ≤ c := by
    rw [← htk, List.length_map, ii_len]
    exact hdeg
  obtain ⟨x0, hx0, _⟩ := Gr.spare (b := b) htl
  obtain ⟨y, ys, hys⟩ : ∃ y ys, ((List.range c).filter fun (k : Nat) => decide ((k : Int) ≠ b) && decide ((k : Int) ∉ tk)) = y :: ys := by
    cases e : ((List.range c).filter fun (k : Nat) => decide ((k : Int) ≠ b) && decide ((k : Int) ∉ tk)) with
    | nil => rw [e] at hx0; cases hx0
    | cons y ys => exact ⟨y, ys, rfl⟩
  have hy : y ∈ ((List.range c).filter fun (k : Nat) => decide ((k : Int) ≠ b) && decide ((k : Int) ∉ tk)) := by rw [hys]; exact List.mem_cons_self ..
  have hy := List.mem_filter.mp hy
  refine s_ret (K := K) (x := (y : Int)) (er_ixL (xs := ((List.range (c : Int).toNat).filter fun (k : Nat) => !decide ((k : Int) = b) && !decide ((k : Int) ∈ tk)).map fun (k : Nat) => (k : Int)) (EL.er (el_rfilter (er_vint rfl) (by omega) (by omega) (fun k H2 hk e2 => et_andU (et_test (er_neI (er_vint rfl) (er_vint rfl))) (et_test (er_notInI (x := (k : Int)) (xs := tk) (er_vint rfl) (er_own rfl o1 e2)))) fun k H2 hk _ e2 => er_vint rfl)) er_int ?_) fun u H2 e2 r2 => ?_
  · have : ((List.range (c : Int).toNat).filter fun (k : Nat) => !decide ((k : Int) = b) && !decide ((k : Int) ∈ tk)) = y :: ys := by
      rw [Int.toNat_natCast, ← hys]
      refine List.filter_congr fun k _ => ?_
      simp
    rw [this]
    exact at_ofN (k := 0) rfl
  · rw [Rep.int r2]
    simp only [Bool.and_eq_true, decide_eq_true_eq] at hy
    refine q _ H2 (e1.trans e2) ⟨by omega, by have := List.mem_range.mp hy.1; omega, hy.2.1, fun x hx z => hy.2.2 ?_⟩
    rw [← htk]
    refine List.mem_map.mpr ⟨(x : Int), mem_iiN.mpr (Gr.mem_nb.mpr hx), ?_⟩
    show (L s).getD ((x : Int)).toNat 0 = _
    rw [Int.toNat_natCast]
    exact z
end
set_option Elab.async false
set_option linter.all false
set_option maxRecDepth 100000
set_option maxHeartbeats 2000000
set_option autoImplicit false
open PySem L2 Z
open Evl (Ex)
/-- rows of ints as tuples -/
def rT (xs : List (List Int)) : List (Tp Int) := xs
def tT (x : List Int) : Tp Int := x
theorem badFrom_all' {n : Nat} {xs : List (Tp Int)} {i : Nat} (h : ∀ t : Tp Int, t ∈ xs → List.length t = n) : badFrom n xs i = none := badFrom_none h
theorem way_row {E : List (Nat × Nat)} {n : Nat} {c : Int} {start : List Int} {ss : List (List Int)} (h : Gr.Way E n c start ss) : badAt (rT ss) = none := by
  have ha := h.all
  have hn := h.ne
  cases ss with
  | nil => exact absurd rfl hn
  | cons x r =>
    show badFrom (List.length x) (rT (x :: r)) 0 = none
    refine badFrom_none fun t ht => ?_
    have h1 := (ha t ht).len
    have h2 := (ha x (List.mem_cons_self ..)).len
    exact h1.trans h2.symm
section
variable {P : Program} {w : World} {K : PySem.W.Frag} {mg : Str → Option Value} {base : Heap} {a : Ad}
/-- Colours(web, c) -/
theorem mk_col {C CW N : Addr} {n : Nat} {ts : List (Tp Int)} {c : Int} {w : Addr} {H : Hp} {Q : Addr → Hp → Prop} {E : XK} (W : Wb K CW H w n ts) (good : ∀ x H', colBad n c = false → H x = none → Ex H H' → ColAt K C CW H' x n ts c → Q x H')
    (bad : colBad n c = true → ∀ d H', Ex H H' → H' d = some (.xd [("index", .int (-1))]) → E (.ref N) (some d) H') : ∀ x dx, H x = none → H dx = none → dx ≠ x → spColI K C CW N [.ref x, .ref w, .int c] (upd (upd H dx (.own x)) x (.ins C dx [])) (fun v H2 => v = .non ∧ Q x H2) E := fun x dx hx hdx hne => by
  have f1 : Ex H (upd H dx (.own x)) := Evl.Ex.new hdx
  have hx' : (upd H dx (.own x)) x = none := by rw [upd_ne (Ne.symm hne)]; exact hx
  have f2 : Ex (upd H dx (.own x)) (upd (upd H dx (.own x)) x (.ins C dx [])) := Evl.Ex.new hx'
  refine ⟨x, w, n, ts, c, rfl, ⟨dx, upd_same⟩, W.mono (f1.trans f2), by rw [cut_updn hx']; exact W.mono f1, fun hb H' ex at_ => ⟨rfl, ?_⟩, fun hb d H' ex hd => bad hb d H' ((f1.trans f2).trans ex) hd⟩
  rw [cut_updn hx'] at ex
  exact good x H' hb hx (f1.trans (ex.trans cut_ex)) at_
structure LeadE (K : PySem.W.Frag) (a : Ad) (H : Hp) (n : Nat) (ts : List (Tp Int)) (c : Int) (s g : Tp Int) (E : XK) : Prop where
  world : colBad n c = true → ∀ d H', Ex H H' → H' d = some (.xd [("index", .int (-1))]) → E (.ref a.C_BadWorld) (some d) H'
  few : colBad n c = false → c < (Gr.mostD n (eds ts) : Nat) + 2 → ∀ d H', Ex H H' → H' d = some (.xd [("needed", .int ((Gr.mostD n (eds ts) : Nat) + 2))]) → E (.ref a.C_TooFew) (some d) H'
  st : colBad n c = false → (Gr.mostD n (eds ts) : Nat) + 2 ≤ c → colB n ts c (L s) = false → ∀ u d H', Ex H H' → Rep K H' u s → H' d = some (.xd [("setting", u)]) → E (.ref a.C_NotAnAnswer) (some d) H'
  go : colBad n c = false → (Gr.mostD n (eds ts) : Nat) + 2 ≤ c → colB n ts c (L s) = true → colB n ts c (L g) = false → ∀ u d H', Ex H H' → Rep K H' u g → H' d = some (.xd [("setting", u)]) → E (.ref a.C_NotAnAnswer) (some d) H'
def spLead (K : PySem.W.Frag) (a : Ad) : Sp := fun vs H Q E => ∃ (w : Addr) (n : Nat) (ts : List (Tp Int)) (c : Int) (v u : V) (s g : Tp Int), vs = [.ref w, .int c, v, u] ∧ Wb K a.C_Web H w n ts ∧ Rep K H v s ∧ Rep K H u g ∧ (L s).length ≤ 1000 ∧ (L g).length ≤ 1000 ∧ LeadE K a H n ts c s g E ∧
  (colBad n c = false → (Gr.mostD n (eds ts) : Nat) + 2 ≤ c → colB n ts c (L s) = true → colB n ts c (L g) = true → ∀ r l H' ss, H r = none → Ex H H' → RowAt K a.C_Row H' r l (rT ss) → Gr.Led (eds ts) n c (L s) (L g) n ss → Q (.ref r) H')
theorem ok_lead_many (T : Txt P K mg a) : FnOk P w K mg base (L2N.CX P w) 5 a.f_lead_many a.d_lead_many ["web", "colours", "start", "goal"] (spLead K a) := by
  refine okXN T.F_lead_many sc_lead_many (fun vs H Q E (h : spLead K a vs H Q E) => by obtain ⟨w, n, ts, c, v, u, s, g, rfl, _⟩ := h; rfl) (fun cdv A outer s0 H vs Q E hr h => ⟨_, (pss_cons (ps_set (i := 4) sc_lead_many.nd rfl (Or.inl rfl) (pe_make T.mk_Colours (ok_Coloursw_initw T) (hr.mono (by decide)) (by rfl) T.m_Colours T.b_Coloursw_initw .nil (L2N.passes_call (L2N.takes_of rfl rfl rfl rfl) (fun _ _ _ _ h => h)) (pa_cons (pv 0) (pa_cons (pv 1) pa_nil))))
  (pss_cons (ps_set (i := 5) sc_lead_many.nd rfl (Or.inl rfl) (pe_op op_add (pe_call (ok_most_beside T) (hr.mono (by decide)) (by rfl) T.m_most_beside T.F_most_beside.kp T.b_most_beside .nil pass0 (pa_cons (pv 0) pa_nil)) pe_int))
  (pss_cons (ps_if (pt_cmpR op_lt (pv 1) (pv 5) (nomark _))
  (pss_one (L2N.ps_raise rfl (L2N.takes_of rfl rfl rfl rfl) (pmk_oexN T.S_TooFeww_initw.T T.i_TooFeww_initw T.ti_TooFeww_initw (ok_TooFeww_initw T) (hr.mono (by decide)) T.b_TooFeww_initw .nil pass0 (by rfl) T.m_TooFew (pa_cons (pv 5) pa_nil))))
  pss_nil)
  (pss_cons (ps_expr (pe_call (ok_check_answer T) (hr.mono (by decide)) (by rfl) T.m_check_answer T.F_check_answer.kp T.b_check_answer .nil (L2N.passes_call (L2N.takes_of rfl rfl rfl rfl) (fun _ _ _ _ h => h)) (pa_cons (pv 4) (pa_cons (pv 2) pa_nil))))
  (pss_cons (ps_expr (pe_call (ok_check_answer T) (hr.mono (by decide)) (by rfl) T.m_check_answer T.F_check_answer.kp T.b_check_answer .nil (L2N.passes_call (L2N.takes_of rfl rfl rfl rfl) (fun _ _ _ _ h => h)) (pa_cons (pv 4) (pa_cons (pv 3) pa_nil))))
  (pss_cons (ps_set (i := 6) sc_lead_many.nd rfl (Or.inl rfl) (pe_lst (pa_cons (pv 2) pa_nil)))
  (pss_cons (ps_for (passes_of rfl) rfl (pi_range1 (by rfl) T.z_range (pa_cons (k_pe_fld (K := K) rfl (pe_fld (pv 0) (by rfl))) pa_nil)) (pg_name (i := 7) sc_lead_many.nd rfl (Or.inl rfl))
  (pss_cons (ps_set (i := 8) sc_lead_many.nd rfl (Or.inl rfl) (pe_ix (k_ix_tup (K := K) rfl) (pv 3) (pv 7) (fun _ _ => rfl)))
  (pss_one (ps_if (pt_cmpR op_ne (pe_ix (k_ix_tup (K := K) rfl) (pe_ix (k_ix_list (K := K) rfl) (pv 6) (pe_un un_neg pe_int) (fun _ _ => rfl)) (pv 7) (fun _ _ => rfl)) (pv 8) (nomark _))
  (pss_cons (ps_for (passes_of rfl) rfl (k_pi_list (K := K) rfl (pe_ix (k_ix_list (K := K) rfl) (k_pe_fld (K := K) rfl (pe_fld (pv 0) (by rfl))) (pv 7) (fun _ _ => rfl))) (pg_name (i := 9) sc_lead_many.nd rfl (Or.inl rfl))
  (pss_cons (ps_set (i := 10) sc_lead_many.nd rfl (Or.inl rfl) (pe_ix (k_ix_list (K := K) rfl) (pv 6) (pe_un un_neg pe_int) (fun _ _ => rfl)))
  (pss_one (ps_if (pt_cmpR op_eq (pe_ix (k_ix_tup (K := K) rfl) (pv 10) (pv 9) (fun _ _ => rfl)) (pv 8) (nomark _))
  (pss_one (ps_expr (k_pe_bm (K := K) rfl (pe_bm PySem.F.plainAttrs_list PySem.F.slot_list_append PySem.F.type_list_append mt_append (pv 6) (pa_cons (pe_call (ok_with_value T) (hr.mono (by decide)) (by rfl) T.m_with_value T.F_with_value.kp T.b_with_value .nil pass0 (pa_cons (pv 10) (pa_cons (pv 9) (pa_cons (pe_call (ok_spare_colour T) (hr.mono (by decide)) (by rfl) T.m_spare_colour T.F_spare_colour.kp T.b_spare_colour .nil pass0 (pa_cons (pv 0) (pa_cons (pv 1) (pa_cons (pv 10) (pa_cons (pv 9) (pa_cons (pv 8) pa_nil)))))) pa_nil)))) pa_nil)))))
  pss_nil))))
  (pss_one (ps_expr (k_pe_bm (K := K) rfl (pe_bm PySem.F.plainAttrs_list PySem.F.slot_list_append PySem.F.type_list_append mt_append (pv 6) (pa_cons (pe_call (ok_with_value T) (hr.mono (by decide)) (by rfl) T.m_with_value T.F_with_value.kp T.b_with_value .nil pass0 (pa_cons (pe_ix (k_ix_list (K := K) rfl) (pv 6) (pe_un un_neg pe_int) (fun _ _ => rfl)) (pa_cons (pv 7) (pa_cons (pv 8) pa_nil)))) pa_nil))))))
  pss_nil))))
  (pss_one (ps_ret (pe_make T.mk_Row (ok_Roww_initw T) (hr.mono (by decide)) (by rfl) T.m_Row T.b_Roww_initw .nil (L2N.passes_call (L2N.takes_of rfl rfl rfl rfl) (fun _ _ _ _ h => h)) (pa_cons (pv 6) pa_nil))))))))))), ?_⟩)
  obtain ⟨w, n, ts, c, v, u, s, g, rfl, W, rs, rg, hsl, hgl, LE, q⟩ := h
  obtain ⟨dx, pt, pn, hw1, hw2, hw3⟩ := W.at_.fields W.ok
  have ed := W.ok.ed
  have hn := W.hn
  have htl := W.hl
  refine q_setW (w_make (K := K) (as_v (ev_var rfl) (as_v (er_vint rfl).evI as_nil)) ?_)
  rintro vs H1 e1 ⟨_, rfl, _, rfl, rfl⟩
  refine mk_col (W.mono e1) (fun x H2 hb hx e2 X => ?_) fun hb d H2 e2 hd => LE.world hb d H2 (e1.trans e2) hd
  have e02 := e1.trans e2
  refine q_setI (K := K) (x := ((Gr.mostD n (eds ts) : Nat) : Int) + 2) (er_add (er_most (ev_var rfl) W e02) er_int) fun H3 e3 => ?_
  have e03 := e02.trans e3
  refine q_if (K := K) (b := decide (c < ((Gr.mostD n (eds ts) : Nat) : Int) + 2)) (et_test (er_lt (er_vint rfl) (er_vint rfl))) (fun hc H4 e4 => ?_) (fun hc H4 e4 => ?_)
  · exact mk_X1 (K := K) (v := .int (((Gr.mostD n (eds ts) : Nat) : Int) + 2)) (er_vint rfl).evI fun d H5 _ e5 hd => LE.few hb (of_decide_eq_true hc) d H5 (e03.trans (e4.trans e5)) hd
  have hc := of_decide_eq_false hc
  have hc : ((Gr.mostD n (eds ts) : Nat) : Int) + 2 ≤ c := by omega
  have e04 := e03.trans e4
  have X4 := X.mono (e3.trans e4)
  refine q_drop (w_call (K := K) (as_v (ev_var rfl) (as_r (er_var (i := 2) (x := s) rfl rs e04) as_nil)) ?_)
  rintro vs H5 e5 ⟨_, rfl, v', _, rfl, rv', rfl⟩
  refine ⟨x, n, ts, c, v', s, rfl, X4.mono e5, rv', hsl, fun hs H6 e6 => ?_, fun hs u' d H6 e6 ru hd => LE.st hb hc hs u' d H6 (e04.trans (e5.trans e6)) ru hd⟩
  have e06 := e04.trans (e5.trans e6)
  refine q_drop (w_call (K := K) (as_v (ev_var rfl) (as_r (er_var (i := 3) (x := g) rfl rg e06) as_nil)) ?_)
  rintro vs H7 e7 ⟨_, rfl, u', _, rfl, ru', rfl⟩
  refine ⟨x, n, ts, c, u', g, rfl, X4.mono (e5.trans (e6.trans e7)), ru', hgl, fun hg H8 e8 => ?_, fun hg u' d H8 e8 ru hd => LE.go hb hc hs hg u' d H8 (e06.trans (e7.trans e8)) ru hd⟩
  have e08 := e06.trans (e7.trans e8)
  have Ps := colB_prp.mp hs
  have Pg := colB_prp.mp hg
  obtain ⟨cn, rfl⟩ : ∃ cn : Nat, c = cn := ⟨c.toNat, by omega⟩
  have hc8 : cn ≤ 8 := by
    unfold colBad at hb
    simp only [Bool.or_eq_false_iff, decide_eq_false_iff_not] at hb
    omega
  refine q_setL (K := K) (xs := [s]) (el_lst (ea_cons (er_var (i := 2) (x := s) rfl rs e08) ea_nil)) fun p H9 hp e9 o9 => ?_
  have e09 := e08.trans e9
  refine q_rng (K := K) (n := (n : Int)) (er_places T (ev_var rfl) W e09) (by omega) (by omega) fun H10 e10 => ⟨H8, fun i σ' H' => (∃ o7 o8 o9 o10, σ' = [some (.ref w), some (.int cn), some v, some u, some (.ref x), some (.int (((Gr.mostD n (eds ts) : Nat) : Int) + 2)), some (.ref p), o7, o8, o9, o10]) ∧ ∃ ss, Own K H' p (rT ss) ∧ Gr.Led (eds ts) n cn (L s) (L g) i ss,
    e9.trans e10, ⟨⟨_, _, _, _, rfl⟩, _, o9.mono e10, Gr.Led.begin Ps⟩, ?_, ?_⟩
  · rintro i σ' H11 hi e11 ⟨⟨o7, o8, o9, o10, rfl⟩, ss, o11, Ld⟩
    rw [Int.toNat_natCast] at hi
    have e011 := e08.trans e11
    obtain ⟨cur, hcur⟩ : ∃ cur, ss.getLast? = some cur := ⟨_, List.getLast?_eq_some_getLast Ld.way.ne⟩
    have Pc := Ld.way.all cur (List.mem_of_getLast? hcur)
    have gi : atI (L g) (i : Int) = some ((L g).getD i 0) := at_ofN (sAt (s := L g) (by rw [Pg.len]; exact hi))
    refine q_setI (K := K) (x := (L g).getD i 0) (er_ixT (xs := g) (er_var rfl rg e011) (er_vint rfl) gi) fun H12 e12 => ?_
    have o12 := o11.mono e12
    have lst : ∀ {σ : L2.St} {G : Hp} {ss : List (List Int)} {cur : List Int}, σ[6]? = some (some (.ref p)) → Own K G p (rT ss) → ss.getLast? = some cur → ER K (tOp (rIxL K) (tVar 6) (tUn (rU fun i => .int (-i)) (tC (.int 1)))) σ G (tT cur) := fun h o hc => er_ixL (xs := rT _) (i := -1) (er_own h o (Ex.refl _)) (er_neg er_int) (at_m1 hc)
    refine s_if (K := K) (b := !decide (cur.getD i 0 = (L g).getD i 0)) (et_test (er_neI (er_ixT (xs := tT cur) (lst rfl o12 hcur) (er_vint rfl) (at_ofN (sAt (s := cur) (by rw [Pc.len]; exact hi)))) (er_vint rfl))) (fun hb2 H13 e13 => ?_) (fun hb2 H13 e13 => ?_)
    · have hne : cur.getD i 0 ≠ (L g).getD i 0 := by simpa using hb2
      obtain ⟨an, vn, han, sn, rr⟩ := Rep.list hw3
      cases han
      obtain ⟨wv, hv1, hv2⟩ := rr.get (nears_at (E := eds ts) hi)
      have e813 := e11.trans (e12.trans e13)
      refine q_forE (K := K) (xs := ii (Gr.nb (eds ts) i)) (v := wv) (G := H8) (ev_ixL (vs := vn) (k := (i : Int)) (fld_near T (ev_var rfl) hw1 (e08.trans e813)) sn (e08.trans e813) (er_vint rfl) (at_ofN hv1)) (hv2.mono e08) e813
        (fun j σ' H' => (∃ o9 o10, σ' = [some (.ref w), some (.int cn), some v, some u, some (.ref x), some (.int (((Gr.mostD n (eds ts) : Nat) : Int) + 2)), some (.ref p), some (.int (i : Nat)), some (.int ((L g).getD i 0)), o9, o10]) ∧ ∃ ss, Own K H' p (rT ss) ∧ Gr.Giv (eds ts) n cn (L s) (L g) i ss ((Gr.nb (eds ts) i).take j))
        (fun H14 e14 => ⟨⟨_, _, rfl⟩, ss, o12.mono (e13.trans e14), by rw [List.take_zero]; exact Ld.giv hcur hne⟩) ?_ ?_
      · rintro j m wj σ' H14 hj e14 rj ⟨⟨o9, o10, rfl⟩, ss, o14, Gv⟩
        obtain ⟨z, hz, rfl⟩ := ii_got hj
        obtain rfl := Rep.int rj
        have hN : Gr.Nb (eds ts) i z := Gr.mem_nb.mp (List.mem_of_getElem? hz)
        have hzn : z < n := by
          rcases hN with y | y <;> have := ed.bd _ y <;> omega
        have et : (Gr.nb (eds ts) i).take (j + 1) = (Gr.nb (eds ts) i).take j ++ [z] := take_succ_get hz
        obtain ⟨cur, hcur⟩ : ∃ cur, ss.getLast? = some cur := ⟨_, List.getLast?_eq_some_getLast Gv.way.ne⟩
        have Pc := Gv.way.all cur (List.mem_of_getLast? hcur)
        have hsl' : ss.length ≤ 100 := by
          have h1 := Gv.len
          have h2 := Gr.ups_le (p := i) (E := eds ts) fun e he => (ed.lt e he).1
          have h3 : Gr.ups (eds ts) i ((Gr.nb (eds ts) i).take j) ≤ Gr.ups (eds ts) i (Gr.nb (eds ts) i) := (List.take_sublist j _).countP_le
          have h4 := Gr.below_le (E := eds ts) (m := i + 1)
          have h5 : (eds ts).length = ts.length := List.length_map ..
          omega
        refine q_set (K := K) (x := tT cur) (lst rfl o14 hcur) fun vc H15 e15 rc => ?_
        have czat : atI cur (z : Int) = some (cur.getD z 0) := at_ofN (sAt (s := cur) (by rw [Pc.len]; exact hzn))
        refine s_if (K := K) (b := decide (cur.getD z 0 = (L g).getD i 0)) (et_test (er_eqI (er_ixT (xs := tT cur) (er_var rfl rc (Ex.refl _)) (er_vint rfl) czat) (er_vint rfl))) (fun hb3 H16 e16 => ?_) (fun hb3 H16 e16 => ?_)
        · have heq := of_decide_eq_true hb3
          have e016 := e08.trans (e14.trans (e15.trans e16))
          have hdeg := Gr.most_ge (E := eds ts) hzn
          refine s_appR (K := K) (α := Tp Int) (P := fun y _ => ∃ sp, y = tT (cur.set z sp) ∧ Spare (eds ts) cur z cn ((L g).getD i 0) sp) (l := 6) rfl (o14.mono (e15.trans e16)) (fun Q' q' => ?_) (by show ss.length < _; omega) fun H17 y H18 e17 hP k18 o18 => ?_
          · refine w_call (K := K) (as_r (er_var (i := 10) (x := tT cur) rfl (rc.mono e16) (Ex.refl _)) (as_v (er_vint (i := 9) (n := (z : Int)) rfl).evI (as_p (R1 := fun v _ => ∃ sp, v = V.int sp ∧ Spare (eds ts) cur z cn ((L g).getD i 0) sp) (fun _ _ _ _ h => h) (fun H17 e17 Q2 q2 => ?_) as_nil))) ?_
            · refine w_call (K := K) (as_v (ev_var rfl) (as_v (er_vint rfl).evI (as_r (er_var (i := 10) (x := tT cur) rfl (rc.mono e16) e17) (as_v (er_vint rfl).evI (as_v (er_vint rfl).evI as_nil))))) ?_
              rintro vs H18 e18 ⟨_, rfl, _, rfl, v3, _, rfl, r3, _, rfl, _, rfl, rfl⟩
              exact ⟨w, n, ts, cn, z, v3, tT cur, _, rfl, W.mono (e016.trans (e17.trans e18)), r3, Pc.len, hzn, by omega, by omega, fun sp H19 e19 hsp => q2 _ H19 (e18.trans e19) ⟨sp, rfl, hsp⟩⟩
            · rintro vs H17 e17 ⟨v3, _, rfl, r3, _, rfl, v4, _, rfl, ⟨sp, rfl, hsp⟩, rfl⟩
              exact ⟨v3, _, _, tT cur, (z : Int), sp, rfl, r3, rep_int _, rep_int _, ⟨by omega, by show (z : Int) < (cur.length : Int); rw [Pc.len]; omega, by show cur.length ≤ 1000; rw [Pc.len]; omega⟩, fun v5 H18 e18 r5 => q' v5 H18 _ (e17.trans e18) r5 ⟨sp, by unfold putT; rw [Int.toNat_natCast]; rfl, hsp⟩⟩
          · obtain ⟨sp, rfl, sp0, sp1, sp2, sp3⟩ := hP
            refine ⟨k18 _ (e14.trans (e15.trans (e16.trans e17))) ?_, ⟨_, _, rfl⟩, ss ++ [cur.set z sp], o18, ?_⟩
            · exact hp
            · rw [et]
              exact Gv.give ed Pg hcur hN heq ⟨sp0, sp1⟩ sp2 sp3
        · have hne2 := of_decide_eq_false hb3
          refine ⟨e14.trans (e15.trans e16), ⟨_, _, rfl⟩, ss, o14.mono (e15.trans e16), ?_⟩
          rw [et]
          exact Gv.skip hcur hne2
      · rintro σ' H14 e14 ⟨⟨o9, o10, rfl⟩, ss, o14, Gv⟩
        rw [ii_len, List.take_length] at Gv
        obtain ⟨cur, hcur⟩ : ∃ cur, ss.getLast? = some cur := ⟨_, List.getLast?_eq_some_getLast Gv.way.ne⟩
        have Pc := Gv.way.all cur (List.mem_of_getLast? hcur)
        have hsl' : ss.length ≤ 100 := by
          have h1 := Gv.len
          have h2 := Gr.ups_le (p := i) (E := eds ts) fun e he => (ed.lt e he).1
          have h4 := Gr.below_le (E := eds ts) (m := i + 1)
          have h5 : (eds ts).length = ts.length := List.length_map ..
          omega
        refine s_app (K := K) (l := 6) rfl o14 (x := putT (tT cur) (i : Int) ((L g).getD i 0)) (er_c3 (x := tT cur) (y := (i : Int)) (z := (L g).getD i 0) (lst rfl o14 hcur) (er_vint rfl) (er_vint rfl) ⟨by omega, by show (i : Int) < (cur.length : Int); rw [Pc.len]; omega, by show cur.length ≤ 1000; rw [Pc.len]; omega⟩) (by show ss.length < _; omega) fun H15 k15 _ o15 => ⟨k15 _ e14 hp, ⟨_, _, _, _, rfl⟩, ss ++ [cur.set i ((L g).getD i 0)], ?_, Gv.end_ ed Pg hi hcur rfl⟩
        have : putT (tT cur) (i : Int) ((L g).getD i 0) = tT (cur.set i ((L g).getD i 0)) := by unfold putT; rw [Int.toNat_natCast]; rfl
        rw [this] at o15
        exact o15
    · have heq : cur.getD i 0 = (L g).getD i 0 := by simpa using hb2
      exact ⟨e11.trans (e12.trans e13), ⟨_, _, _, _, rfl⟩, ss, o12.mono e13, Ld.same hcur heq⟩
  · rintro σ' H11 e11 ⟨⟨o7, o8, o9, o10, rfl⟩, ss, o11, Ld⟩
    rw [Int.toNat_natCast] at Ld
    have hsl' : ss.length ≤ 100 := by
      have h1 := Ld.len
      have h4 := Gr.below_le (E := eds ts) (m := n)
      have h5 : (eds ts).length = ts.length := List.length_map ..
      omega
    refine s_retW (w_make (K := K) (as_r (er_own rfl o11 (Ex.refl _)) as_nil) ?_)
    rintro vs H12 e12 ⟨v6, _, rfl, r6, rfl⟩
    exact mk_core r6 ⟨by show ss.length ≤ _; omega, fun t ht => by have := (Ld.way.all t ht).len; have : List.length t = n := this; omega⟩ (fun _ r l H13 hr2 hl e13 at_ => q hb hc hs hg r l H13 ss (fresh_back (e08.trans (e11.trans e12)) hr2) (e08.trans (e11.trans (e12.trans e13))) at_ Ld) fun k hk => by rw [way_row Ld.way] at hk; cases hk
end
set_option Elab.async false
set_option linter.all false
set_option maxRecDepth 100000
set_option maxHeartbeats 1600000
set_option autoImplicit false
open PySem L2 Z
open Evl (Ex)
theorem tie_in {n k : Nat} {t : Tp Int} (h : TieOk n t) : decide ((k : Int) ∈ L t) = (decide (((L t).getD 0 0).toNat = k) || decide (((L t).getD 1 0).toNat = k)) := by
  have h0 := h.h0
  have h1 := h.lt
  have e := two_at h.len
  rw [Bool.eq_iff_iff, decide_eq_true_eq, Bool.or_eq_true, decide_eq_true_eq, decide_eq_true_eq]
  constructor
  · intro z
    rw [e] at z
    rcases List.mem_cons.mp z with z | z
    · left; omega
    · right
      have := List.mem_singleton.mp z
      omega
  · rintro (z | z)
    · rw [e]
      exact List.mem_cons.mpr (.inl (by omega))
    · rw [e]
      exact List.mem_cons_of_mem _ (List.mem_singleton.mpr (by omega))
def bes (k : Int) (ts : List (Tp Int)) : Int := ((ts.filter fun t => decide (k ∈ L t)).length : Int)
theorem TOk.lt {n : Nat} {ts : List (Tp Int)} (h : TOk n ts) : ∀ e, e ∈ eds ts → e.1 < e.2 := fun e he => (h.ed.lt e he).1
theorem bes_deg {n k : Nat} {ts : List (Tp Int)} (h : TOk n ts) : bes k ts = (Gr.deg (eds ts) k : Nat) := by
  unfold bes
  rw [Gr.deg_count h.lt]
  unfold eds
  rw [List.countP_map, List.countP_eq_length_filter]
  congr 2
  exact List.filter_congr fun t ht => tie_in (h.ok t ht)
theorem tieOk2 {n : Nat} {x y : Int} (h0 : 0 ≤ x) (h1 : x < y) (h2 : y < n) : TieOk n (tp2 x y) := ⟨rfl, h0, h1, h2⟩
theorem deg_snoc {n k : Nat} {ts : List (Tp Int)} {x y : Int} (h : TOk n (ts ++ [tp2 x y])) : Gr.deg (eds (ts ++ [tp2 x y])) k = Gr.deg (eds ts) k + if x.toNat = k ∨ y.toNat = k then 1 else 0 := by
  rw [Gr.deg_count h.lt, Gr.deg_count fun e he => h.lt e (by unfold eds at he ⊢; rw [List.map_append]; exact List.mem_append_left _ he)]
  unfold eds
  rw [List.map_append, List.countP_append]
  congr 1
  show [(x.toNat, y.toNat)].countP _ = _
  rw [List.countP_cons, List.countP_nil, Nat.zero_add]
  congr 1
  simp
section
variable {P : Program} {w : World} {K : PySem.W.Frag} {mg : Str → Option Value} {base : Heap} {a : Ad}
def spInt (K : PySem.W.Frag) : Sp := sp2 K (fun (_ _ : Int) => True) fun x y => decide (x = y)
theorem okW_law_int (T : Txt P K mg a) : FnW P w K mg base CX0 1 a.f_law_int a.d_law_int ["actual", "expected"] (spInt K) := by
  refine fun_okW T.F_law_int sc_law_int len2 (fun cdv A outer s H vs Q E hr h => ⟨_, (pss_one (ps_ret (pe_and (pe_callB (k_call_isi (K := K) rfl) (by rfl) T.z_isinstance (by decide +kernel) (pa_cons (pv 0) (pa_cons (pe_bltn (v := .ty "int") (by rfl) T.z_int (by decide +kernel) rfl) pa_nil))) (pe_and (pe_not (pe_callB (k_call_isi (K := K) rfl) (by rfl) T.z_isinstance (by decide +kernel) (pa_cons (pv 0) (pa_cons (pe_bltn (v := .ty "bool") (by rfl) T.z_bool (by decide +kernel) rfl) pa_nil)))) (pe_one (pe_cmpR op_eq (pv 0) (pv 1) (nomark _))))))), ?_⟩)
  obtain ⟨v, u, x, y, rfl, r1, r2, _, q⟩ := h
  obtain rfl := Rep.int r1
  obtain rfl := Rep.int r2
  exact s_ret (K := K) (x := decide (x = y)) (ER.is (by walk_at "ev") (by simp)) q
theorem ok_law_int (T : Txt P K mg a) : FnOk P w K mg base CX0 1 a.f_law_int a.d_law_int ["actual", "expected"] (spInt K) := (okW_law_int T).ok
theorem er_lint {E : XK} {H : Hp} {ta tb : TE} {σ : L2.St} {i j : Int} (h1 : ER K ta σ H i) (h2 : ER K tb σ H j) : ER K (tCall (spInt K) [] E (tCons ta (tCons tb tNil))) σ H (decide (i = j)) := er_c2 h1 h2 trivial
/-- two tuples alike -/
def spTup (K : PySem.W.Frag) : Sp := sp2 K (fun (x y : Tp Int) => x = y ∧ List.length x ≤ 1000) fun _ _ => true
theorem okH_law_tuple (T : Txt P K mg a) : L2H.FnH P w K mg base CX0 2 a.f_law_tuple a.d_law_tuple ["actual", "expected"] (spTup K) := by
  refine fun_okH T.F_law_tuple sc_law_tuple len2 (fun cdv A outer s H vs Q E p hot hr h => ⟨_, (pss_cons (ps_if (PW.pt (pw_or (pt_not (pt_val (pe_callB (k_call_isi (K := K) rfl) (by rfl) T.z_isinstance (by decide +kernel) (pa_cons (pv 0) (pa_cons (pe_bltn (v := .ty "tuple") (by rfl) T.z_tuple (by decide +kernel) rfl) pa_nil))))) (pw_or1 (pt_cmpR op_ne (pe_callB (k_call_len_seq (K := K) rfl) (by rfl) T.z_len (by decide +kernel) (pa_cons (pv 0) pa_nil)) (pe_callB (k_call_len_seq (K := K) rfl) (by rfl) T.z_len (by decide +kernel) (pa_cons (pv 1) pa_nil)) (nomark _)))))
  (pss_one (ps_ret pe_bl))
  pss_nil)
  (pss_one (ps_ret (pe_callB (k_cr_allH (K := K) rfl hot) (by rfl) T.z_all (by decide +kernel) (pa_cons (pe_lcH (own := [("k", 2)]) hot sc_law_tuple.nd (L2H.pi_range1H (by rfl) T.z_range (pa_cons (pe_callB (k_call_len_seq (K := K) rfl) (by rfl) T.z_len (by decide +kernel) (pa_cons (pv 1) pa_nil)) pa_nil)) (blkOk_by (own := [("k", 2)]) (N := N_law_tuple) (sc := defScope s_law_tuple) (by decide +kernel)) (fun _ _ _ _ _ => (pg_name (i := 2) sc_law_tuple.nd rfl (Or.inl rfl))) (fun _ _ _ _ _ => pts_nil) (fun _ _ _ _ _ => (pe_callW (okW_law_int T) (roomW_H (j := 1) hr (by decide)) (by rfl) T.m__law_int T.F_law_int.kp T.b_law_int pass0 (pa_cons (pe_ix (k_ix_tup (K := K) rfl) (pv 0) (pv 2) (fun _ _ => rfl)) (pa_cons (pe_ix (k_ix_tup (K := K) rfl) (pv 1) (pv 2) (fun _ _ => rfl)) pa_nil))))) pa_nil))))), ?_⟩)
  obtain ⟨v, u, x, y, rfl, r1, r2, ⟨rfl, hl⟩, q⟩ := h
  refine q_ifF (K := K) (et_orU (et_not (et_B (er_isi_tup (xs := x) (er_var rfl r1 (Ex.refl _))))) (et_test (er_neI (er_lenT (xs := x) (er_var rfl r1 (Ex.refl _)) rfl) (er_lenT (xs := x) (er_var rfl r2 (Ex.refl _)) rfl)))) (by simp) fun H1 e1 => ?_
  refine s_ret (K := K) (x := true) (ER.is (er_all (EL.er (el_rmap (n := (List.length x : Int)) (f := fun _ => true) (er_lenT (xs := x) (er_var rfl r2 e1) rfl) (by omega) (by omega) fun k H2 hk e2 => ?_))) (by simp)) fun v H2 e2 r => q v H2 (e1.trans e2) r
  have hx := at_ofN (sAt (s := L x) (k := k) (by show k < List.length x; omega))
  exact ER.is (er_lint (er_ixT (xs := x) (er_var rfl r1 (e1.trans e2)) (er_vint rfl) hx) (er_ixT (xs := x) (er_var rfl r2 (e1.trans e2)) (er_vint rfl) hx)) (decide_eq_true rfl)
theorem ok_law_tuple (T : Txt P K mg a) : FnOk P w K mg base CX0 2 a.f_law_tuple a.d_law_tuple ["actual", "expected"] (spTup K) := by
  refine T.F_law_tuple.ok sc_law_tuple len2 (fun cdv A outer s H vs Q E hr h => ⟨_, (pss_cons (ps_if (PW.pt (pw_or (pt_not (pt_val (pe_callB (k_call_isi (K := K) rfl) (by rfl) T.z_isinstance (by decide +kernel) (pa_cons (pv 0) (pa_cons (pe_bltn (v := .ty "tuple") (by rfl) T.z_tuple (by decide +kernel) rfl) pa_nil))))) (pw_or1 (pt_cmpR op_ne (pe_callB (k_call_len_seq (K := K) rfl) (by rfl) T.z_len (by decide +kernel) (pa_cons (pv 0) pa_nil)) (pe_callB (k_call_len_seq (K := K) rfl) (by rfl) T.z_len (by decide +kernel) (pa_cons (pv 1) pa_nil)) (nomark _)))))
  (pss_one (ps_ret pe_bl))
  pss_nil)
  (pss_one (ps_ret (pe_callB (k_cr_all (K := K) rfl rfl) (by rfl) T.z_all (by decide +kernel) (pa_cons (pe_lc (own := [("k", 2)]) rfl sc_law_tuple.nd (pi_range1 (by rfl) T.z_range (pa_cons (pe_callB (k_call_len_seq (K := K) rfl) (by rfl) T.z_len (by decide +kernel) (pa_cons (pv 1) pa_nil)) pa_nil)) (blkOk_by (own := [("k", 2)]) (N := N_law_tuple) (sc := defScope s_law_tuple) (by decide +kernel)) (fun _ _ _ _ _ => (pg_name (i := 2) sc_law_tuple.nd rfl (Or.inl rfl))) (fun _ _ _ _ _ => pts_nil) (fun _ _ _ _ _ => (pe_call (ok_law_int T) (hr.mono (by decide)) (by rfl) T.m__law_int T.F_law_int.kp T.b_law_int .nil pass0 (pa_cons (pe_ix (k_ix_tup (K := K) rfl) (pv 0) (pv 2) (fun _ _ => rfl)) (pa_cons (pe_ix (k_ix_tup (K := K) rfl) (pv 1) (pv 2) (fun _ _ => rfl)) pa_nil))))) pa_nil))))), ?_⟩)
  obtain ⟨v, u, x, y, rfl, r1, r2, ⟨rfl, hl⟩, q⟩ := h
  refine q_ifF (K := K) (et_orU (et_not (et_B (er_isi_tup (xs := x) (er_var rfl r1 (Ex.refl _))))) (et_test (er_neI (er_lenT (xs := x) (er_var rfl r1 (Ex.refl _)) rfl) (er_lenT (xs := x) (er_var rfl r2 (Ex.refl _)) rfl)))) (by simp) fun H1 e1 => ?_
  refine s_ret (K := K) (x := true) (ER.is (er_all (EL.er (el_rmap (n := (List.length x : Int)) (f := fun _ => true) (er_lenT (xs := x) (er_var rfl r2 e1) rfl) (by omega) (by omega) fun k H2 hk e2 => ?_))) (by simp)) fun v H2 e2 r => q v H2 (e1.trans e2) r
  have hx := at_ofN (sAt (s := L x) (k := k) (by show k < List.length x; omega))
  exact ER.is (er_lint (er_ixT (xs := x) (er_var rfl r1 (e1.trans e2)) (er_vint rfl) hx) (er_ixT (xs := x) (er_var rfl r2 (e1.trans e2)) (er_vint rfl) hx)) (decide_eq_true rfl)
theorem er_ltup {E : XK} {H : Hp} {ta tb : TE} {σ : L2.St} {x : Tp Int} (h1 : ER K ta σ H x) (h2 : ER K tb σ H x) (hl : List.length x ≤ 1000) : ER K (tCall (spTup K) [] E (tCons ta (tCons tb tNil))) σ H true := er_c2 h1 h2 ⟨rfl, hl⟩
def spBes (K : PySem.W.Frag) : Sp := sp2 K (fun (_ : Int) (ts : List (Tp Int)) => ts.length ≤ 1000) bes
theorem ok_law_beside (T : Txt P K mg a) : FnOk P w K mg base CX0 1 a.f_law_beside a.d_law_beside ["place", "ties"] (spBes K) := by
  refine T.F_law_beside.ok sc_law_beside len2 (fun cdv A outer s H vs Q E hr h => ⟨_, (pss_one (ps_ret (pe_callB (k_call_len_seq (K := K) rfl) (by rfl) T.z_len (by decide +kernel) (pa_cons (pe_lc (own := [("tie", 2)]) rfl sc_law_beside.nd (k_pi_list (K := K) rfl (pv 1)) (blkOk_by (own := [("tie", 2)]) (N := N_law_beside) (sc := defScope s_law_beside) (by decide +kernel)) (fun _ _ _ _ _ => (pg_name (i := 2) sc_law_beside.nd rfl (Or.inl rfl))) (fun _ _ _ _ _ => (pts_one (pt_cmpR (k_op_in_seq (K := K) rfl) (pv 0) (pv 2) (by with_unfolding_all rfl)))) (fun _ _ _ _ _ => (pv 2))) pa_nil)))), ?_⟩)
  obtain ⟨v, u, k, ts, rfl, r1, r2, hl, q⟩ := h
  obtain rfl := Rep.int r1
  refine s_ret (K := K) (x := bes k ts) (er_len (EL.er (el_gen (xs := ts) (p := fun t => decide (k ∈ L t)) (f := fun t : Tp Int => t) (in_list (er_var rfl r2 (Ex.refl _))) (g_name (i := 2) gr_rep) (fun t σ2 H2 ht e2 s2 => ?_) (fun t σ2 H2 ht _ e2 s2 => ?_) (by omega))) (by unfold bes; rw [List.map_id'])) q
  · obtain ⟨y, rfl, ry⟩ := s2
    exact et_test (er_inIT (xs := t) (er_vint rfl) (er_var rfl ry (Ex.refl _)))
  · obtain ⟨y, rfl, ry⟩ := s2
    exact er_var (x := t) rfl ry (Ex.refl _)
theorem er_lbes {E : XK} {H : Hp} {ta tb : TE} {σ : L2.St} {i : Int} {ts : List (Tp Int)} (h1 : ER K ta σ H i) (h2 : ER K tb σ H ts) (hl : ts.length ≤ 1000) : ER K (tCall (spBes K) [] E (tCons ta (tCons tb tNil))) σ H (bes i ts) := er_c2 h1 h2 hl
def spTies (K : PySem.W.Frag) : Sp := fun vs H Q _ => ∃ (c : Int) (n m cap : Nat), vs = [.int c, .int n, .int m, .int cap] ∧ n ≤ 100 ∧ m ≤ 100 ∧ ∀ p H' ts, H p = none → Ex H H' → Own K H' p ts → TOk n ts → ts.length ≤ m → (∀ k, Gr.deg (eds ts) k ≤ cap) → Q (.ref p) H'
theorem ok_law_ties (T : Txt P K mg a) : FnOk P w K mg base CX0 2 a.f_law_ties a.d_law_ties ["cell", "places", "count", "cap"] (spTies K) := by
  refine T.F_law_ties.ok sc_law_ties (fun vs H Q E (h : spTies K vs H Q E) => by obtain ⟨c, n, m, cap, rfl, _⟩ := h; rfl) (fun cdv A outer s H vs Q E hr h => ⟨_, (pss_cons (ps_set (i := 4) sc_law_ties.nd rfl (Or.inl rfl) (pe_call (ok_law_draw T) (hr.mono (by decide)) (by rfl) T.m__law_draw T.F_law_draw.kp T.b_law_draw .nil pass0 (pa_cons (pv 0) (pa_cons (pe_op op_rep (pe_lst (pa_cons (pe_callB (call_max2 rfl) (by rfl) T.z_max (by decide +kernel) (pa_cons pe_int (pa_cons (pv 1) pa_nil))) pa_nil)) (pe_op op_mul pe_int (pv 2))) pa_nil))))
  (pss_cons (ps_set (i := 5) sc_law_ties.nd rfl (Or.inl rfl) (pe_lst pa_nil))
  (pss_cons (ps_for PassesOwn.never rfl (pi_range1 (by rfl) T.z_range (pa_cons (pv 2) pa_nil)) (pg_name (i := 6) sc_law_ties.nd rfl (Or.inl rfl))
  (pss_cons (ps_set (i := 7) sc_law_ties.nd rfl (Or.inl rfl) (pe_callB (call_min2 rfl) (by rfl) T.z_min (by decide +kernel) (pa_cons (pe_ix (k_ix_list (K := K) rfl) (pv 4) (pe_op op_mul pe_int (pv 6)) (fun _ _ => rfl)) (pa_cons (pe_ix (k_ix_list (K := K) rfl) (pv 4) (pe_op op_add (pe_op op_mul pe_int (pv 6)) pe_int) (fun _ _ => rfl)) pa_nil))))
  (pss_cons (ps_set (i := 8) sc_law_ties.nd rfl (Or.inl rfl) (pe_callB (call_max2 rfl) (by rfl) T.z_max (by decide +kernel) (pa_cons (pe_ix (k_ix_list (K := K) rfl) (pv 4) (pe_op op_mul pe_int (pv 6)) (fun _ _ => rfl)) (pa_cons (pe_ix (k_ix_list (K := K) rfl) (pv 4) (pe_op op_add (pe_op op_mul pe_int (pv 6)) pe_int) (fun _ _ => rfl)) pa_nil))))
  (pss_one (ps_if (PW.pt (pw_and (pt_cmpR op_ne (pv 7) (pv 8) (nomark _)) (pw_and1 (pt_cmpR (k_op_notInD (K := K) rfl (u65 hr)) (pe_tup (pa_cons (pv 7) (pa_cons (pv 8) pa_nil))) (pv 5) (by with_unfolding_all rfl)))))
  (pss_one (ps_if (PW.pt (pw_and (pt_cmpR op_lt (pe_call (ok_law_beside T) (hr.mono (by decide)) (by rfl) T.m__law_beside T.F_law_beside.kp T.b_law_beside .nil pass0 (pa_cons (pv 7) (pa_cons (pv 5) pa_nil))) (pv 3) (nomark _)) (pw_and1 (pt_cmpR op_lt (pe_call (ok_law_beside T) (hr.mono (by decide)) (by rfl) T.m__law_beside T.F_law_beside.kp T.b_law_beside .nil pass0 (pa_cons (pv 8) (pa_cons (pv 5) pa_nil))) (pv 3) (nomark _)))))
  (pss_one (ps_expr (k_pe_bm (K := K) rfl (pe_bm PySem.F.plainAttrs_list PySem.F.slot_list_append PySem.F.type_list_append mt_append (pv 5) (pa_cons (pe_tup (pa_cons (pv 7) (pa_cons (pv 8) pa_nil))) pa_nil)))))
  pss_nil))
  pss_nil)))))
  (pss_one (ps_ret (pv 5)))))), ?_⟩)
  obtain ⟨c, n, m, cap, rfl, hn, hm, q⟩ := h
  refine q_setL (K := K) (xs := drw c (List.replicate (2 * m) (max 1 (n : Int)))) (el_c2 (x := c) (y := List.replicate (2 * m) (max 1 (n : Int))) (er_vint rfl) (EL.er (EL.is (el_rep1 (x := max 1 (n : Int)) (n := 2 * (m : Int)) (el_lst (ea_cons (er_max2 er_int (er_vint rfl)) ea_nil)) (er_mul (i := 2) er_int (er_vint rfl) (by walk_at "side")) (by omega) (by omega)) (by congr 1))) ⟨fun b hb => by rw [(List.mem_replicate.mp hb).2]; omega, by rw [List.length_replicate]; omega⟩) fun pd H1 hpd e1 od => ?_
  refine q_setL (K := K) (α := Tp Int) (xs := []) (el_lst ea_nil) fun p H2 hp e2 o2 => ?_
  have hpH := fresh_back e1 hp
  obtain ⟨ws, hw⟩ := o2.at
  have ne : p ≠ pd := fun z => by obtain ⟨ws, hw⟩ := od.at; rw [← z, hp] at hw; cases hw
  have eG : Ex H (Z.cut H2 p) := cut_of (e1.trans e2) hpH
  refine q_rng (K := K) (n := (m : Int)) (er_vint rfl) (by omega) (by omega) fun H3 e3 => ⟨Z.cut H2 p, fun i σ' H' => (∃ o6 o7 o8, σ' = [some (.int c), some (.int n), some (.int m), some (.int cap), some (.ref pd), some (.ref p), o6, o7, o8]) ∧ ∃ ts, Own K H' p ts ∧ TOk n ts ∧ ts.length ≤ i ∧ ∀ k, Gr.deg (eds ts) k ≤ cap, cut_ex.trans e3, ⟨⟨_, _, _, rfl⟩, _, o2.mono e3, ⟨fun t ht => (List.not_mem_nil ht).elim, List.nodup_nil⟩, by simp, fun k => by show 0 ≤ cap; omega⟩, ?_, ?_⟩
  · rintro i σ' H4 hi e4 ⟨⟨o6, o7, o8, rfl⟩, ts, ot, hok, htl, hdeg⟩
    rw [Int.toNat_natCast] at hi
    have od' := (od.mono e2).cut hw ne
    have g0 : (List.replicate (2 * m) (max 1 (n : Int)))[2 * i]? = some (max 1 (n : Int)) := by rw [List.getElem?_replicate, if_pos (by omega)]
    have g1 : (List.replicate (2 * m) (max 1 (n : Int)))[2 * i + 1]? = some (max 1 (n : Int)) := by rw [List.getElem?_replicate, if_pos (by omega)]
    obtain ⟨x0, hx0, x00, x01⟩ := draw_at (c := c) g0 (by omega)
    obtain ⟨x1, hx1, x10, x11⟩ := draw_at (c := c) g1 (by omega)
    rw [show ((2 * i : Nat) : Int) = 2 * (i : Int) by omega] at hx0
    rw [show ((2 * i + 1 : Nat) : Int) = 2 * (i : Int) + 1 by omega] at hx1
    have d0 : ∀ {σ : L2.St} {G : Hp}, σ[4]? = some (some (.ref pd)) → σ[6]? = some (some (.int (i : Nat))) → Ex H4 G → ER K (tOp (rIxL K) (tVar 4) (tOp (rI CMul fun a b => .int (a * b)) (tC (.int 2)) (tVar 6))) σ G x0 := fun h h' e => er_ixL (xs := drw c (List.replicate (2 * m) (max 1 (n : Int)))) (er_own h od' (e4.trans e)) (er_mul (i := 2) er_int (er_vint h') (by walk_at "side")) hx0
    have d1 : ∀ {σ : L2.St} {G : Hp}, σ[4]? = some (some (.ref pd)) → σ[6]? = some (some (.int (i : Nat))) → Ex H4 G → ER K (tOp (rIxL K) (tVar 4) (tOp (rI0 fun a b => .int (a + b)) (tOp (rI CMul fun a b => .int (a * b)) (tC (.int 2)) (tVar 6)) (tC (.int 1)))) σ G x1 := fun h h' e => er_ixL (xs := drw c (List.replicate (2 * m) (max 1 (n : Int)))) (er_own h od' (e4.trans e)) (er_add (er_mul (i := 2) er_int (er_vint h') (by walk_at "side")) er_int) hx1
    refine q_setI (K := K) (x := min x0 x1) (er_min2 (d0 rfl rfl (Ex.refl _)) (d1 rfl rfl (Ex.refl _))) fun H5 e5 => ?_
    refine q_setI (K := K) (x := max x0 x1) (er_max2 (d0 rfl rfl e5) (d1 rfl rfl e5)) fun H6 e6 => ?_
    have e56 := e5.trans e6
    have keep : ∀ {H' : Hp}, Ex H4 H' → Ex (Z.cut H2 p) H' ∧ (∃ o6 o7 o8, [some (V.int c), some (.int n), some (.int m), some (.int cap), some (.ref pd), some (.ref p), some (.int (i : Nat)), some (.int (min x0 x1)), some (.int (max x0 x1))] = [some (.int c), some (.int n), some (.int m), some (.int cap), some (.ref pd), some (.ref p), o6, o7, o8]) ∧ ∃ ts, Own K H' p ts ∧ TOk n ts ∧ ts.length ≤ i + 1 ∧ ∀ k, Gr.deg (eds ts) k ≤ cap := fun {H'} e => ⟨e4.trans e, ⟨_, _, _, rfl⟩, ts, ot.mono e, hok, by omega, hdeg⟩
    refine s_if (K := K) (b := !decide (min x0 x1 = max x0 x1) && !decide (tp2 (min x0 x1) (max x0 x1) ∈ ts)) (et_andU (et_test (er_neI (er_vint rfl) (er_vint rfl))) (et_test (er_notInD (x := tp2 (min x0 x1) (max x0 x1)) (xs := ts) (er_tup (α := Int) (xs := [_, _]) (ea_cons (er_vint rfl) (ea_cons (er_vint rfl) ea_nil))) (er_own rfl ot e56)))) (fun hb H7 e7 => ?_) (fun hb H7 e7 => keep (e56.trans e7))
    have e57 := e56.trans e7
    refine s_if (K := K) (b := decide (bes (min x0 x1) ts < cap) && decide (bes (max x0 x1) ts < cap)) (et_andU (et_test (er_lt (er_lbes (er_vint rfl) (er_own rfl ot e57) (by omega)) (er_vint rfl))) (et_test (er_lt (er_lbes (er_vint rfl) (er_own rfl ot e57) (by omega)) (er_vint rfl)))) (fun hc H8 e8 => ?_) (fun hc H8 e8 => keep (e57.trans e8))
    simp only [Bool.and_eq_true, Bool.not_eq_true', decide_eq_false_iff_not, decide_eq_true_eq] at hb hc
    have ok2 : TOk n (ts ++ [tp2 (min x0 x1) (max x0 x1)]) := ⟨fun t ht => by
      rcases List.mem_append.mp ht with ht | ht
      · exact hok.ok t ht
      · rw [List.mem_singleton.mp ht]
        exact tieOk2 (by omega) (by omega) (by omega), by
      rw [List.nodup_append]
      refine ⟨hok.nd, by simp, fun x hx y hy => ?_⟩
      rw [List.mem_singleton.mp hy]
      exact fun z => hb.2 (z ▸ hx)⟩
    refine s_app (K := K) (l := 5) rfl (ot.mono (e57.trans e8)) (x := tp2 (min x0 x1) (max x0 x1)) (er_tup (α := Int) (xs := [_, _]) (ea_cons (er_vint rfl) (ea_cons (er_vint rfl) ea_nil))) (by omega) fun H9 k9 _ o9 => ⟨k9 _ (e4.trans (e57.trans e8)) cut_same, ⟨_, _, _, rfl⟩, _, o9, ok2, by rw [List.length_append]; simp; omega, fun k => ?_⟩
    rw [deg_snoc ok2]
    have hk := hdeg k
    have b0 := bes_deg (k := (min x0 x1).toNat) hok
    have b1 := bes_deg (k := (max x0 x1).toNat) hok
    rw [Int.toNat_of_nonneg (by omega)] at b0 b1
    split
    · rename_i z
      rcases z with z | z
      · rw [z] at b0
        omega
      · rw [z] at b1
        omega
    · omega
  · rintro σ' H4 e4 ⟨⟨o6, o7, o8, rfl⟩, ts, ot, hok, htl, hdeg⟩
    rw [Int.toNat_natCast] at htl
    exact s_retV (K := K) (v := .ref p) (ev_var rfl) fun H5 e5 => q p H5 ts hpH (eG.trans (e4.trans e5)) (ot.mono e5) hok htl hdeg
end
set_option Elab.async false
set_option linter.all false
set_option maxRecDepth 100000
set_option maxHeartbeats 1600000
set_option autoImplicit false
open PySem L2 Z
open Evl (Ex)
theorem tie_e {t : Tp Int} {ts : List (Tp Int)} (h : t ∈ ts) : (((L t).getD 0 0).toNat, ((L t).getD 1 0).toNat) ∈ eds ts := List.mem_map.mpr ⟨t, h, rfl⟩
theorem tie_pair {n o p : Nat} {ts : List (Tp Int)} (h : TOk n ts) : tp2 (o : Int) (p : Int) ∈ ts ↔ (o, p) ∈ eds ts := by
  constructor
  · intro z
    have := tie_e z
    exact this
  · intro z
    obtain ⟨t, ht, e⟩ := List.mem_map.mp z
    have ok := h.ok t ht
    have h0 := ok.h0
    have h1 := ok.lt
    injection e with e0 e1
    have : L t = L (tp2 (o : Int) (p : Int)) := by
      rw [two_at ok.len]
      show _ = [(o : Int), (p : Int)]
      congr 1
      · omega
      · congr 1
        omega
    rw [show tp2 (o : Int) (p : Int) = t from this.symm]
    exact ht
theorem put_len {s : Tp Int} {p v : Int} : (L (putT s p v)).length = (L s).length := List.length_set
section
variable {P : Program} {w : World} {K : PySem.W.Frag} {mg : Str → Option Value} {base : Heap} {a : Ad}
def spColg (K : PySem.W.Frag) : Sp := fun vs H Q _ => ∃ (c : Int) (n k : Nat) (v : V) (ts : List (Tp Int)), vs = [.int c, .int n, v, .int k] ∧ n ≤ 100 ∧ k ≤ 100 ∧ Rep K H v ts ∧ TOk n ts ∧ (∀ j, j < n → Gr.deg (eds ts) j + 2 ≤ k) ∧ ∀ u s H', Ex H H' → Rep K H' u (s : Tp Int) → Gr.Prp (eds ts) n k (L s) → Q u H'
theorem ok_law_colouring (T : Txt P K mg a) : FnOk P w K mg base CX0 2 a.f_law_colouring a.d_law_colouring ["cell", "places", "ties", "colours"] (spColg K) := by
  refine T.F_law_colouring.ok sc_law_colouring (fun vs H Q E (h : spColg K vs H Q E) => by obtain ⟨c, n, k, v, ts, rfl, _⟩ := h; rfl) (fun cdv A outer s H vs Q E hr h => ⟨_, (pss_cons (ps_set (i := 4) sc_law_colouring.nd rfl (Or.inl rfl) (pe_call (ok_law_draw T) (hr.mono (by decide)) (by rfl) T.m__law_draw T.F_law_draw.kp T.b_law_draw .nil pass0 (pa_cons (pv 0) (pa_cons (pe_op op_rep (pe_lst (pa_cons pe_int pa_nil)) (pv 1)) pa_nil))))
  (pss_cons (ps_set (i := 5) sc_law_colouring.nd rfl (Or.inr rfl) (pe_lst pa_nil))
  (pss_cons (ps_for PassesOwn.never rfl (pi_range1 (by rfl) T.z_range (pa_cons (pv 1) pa_nil)) (pg_name (i := 6) sc_law_colouring.nd rfl (Or.inr rfl))
  (pss_cons (ps_set (i := 7) sc_law_colouring.nd rfl (Or.inr rfl) (pe_lc (own := [("other", 9)]) rfl sc_law_colouring.nd (pi_range1 (by rfl) T.z_range (pa_cons (pv 6) pa_nil)) (blkOk_by (own := [("other", 9)]) (N := N_law_colouring) (sc := defScope s_law_colouring) (by decide +kernel)) (fun _ _ _ _ _ => (pg_name (i := 9) sc_law_colouring.nd rfl (Or.inl rfl))) (fun _ _ _ _ _ => (pts_one (pt_cmpR (k_op_inD (K := K) rfl (u65 hr)) (pe_tup (pa_cons (pv 9) (pa_cons (pv 6) pa_nil))) (pv 2) (by with_unfolding_all rfl)))) (fun _ _ _ _ _ => (pe_ix (k_ix_list (K := K) rfl) (pv 5) (pv 9) (fun _ _ => rfl)))))
  (pss_cons (ps_setLc (i := 8) (own := [("colour", 10)]) rfl sc_law_colouring.nd rfl rfl (sw_true rfl rfl rfl (by decide +kernel)) (pi_range1 (by rfl) T.z_range (pa_cons (pv 3) pa_nil)) (blkOk_by (own := [("colour", 10)]) (N := N_law_colouring) (sc := defScope s_law_colouring) (by decide +kernel)) (fun _ _ _ _ _ => (pg_name (i := 10) sc_law_colouring.nd rfl (Or.inl rfl))) (fun _ _ _ _ _ => (pts_one (pt_cmpR (k_op_notIn_seq (K := K) rfl) (pv 10) (pv 7) (by with_unfolding_all rfl)))) (fun _ _ _ _ _ => (pv 10)))
  (pss_one (ps_expr (k_pe_bm (K := K) rfl (pe_bm PySem.F.plainAttrs_list PySem.F.slot_list_append PySem.F.type_list_append mt_append (pv 5) (pa_cons (pe_ix (k_ix_list (K := K) rfl) (pv 8) (pe_op op_mod (pe_callTy call_int1 (by rfl) T.z_int (by decide +kernel) (pa_cons (pe_ix (k_ix_list (K := K) rfl) (pv 4) (pv 6) (fun _ _ => rfl)) pa_nil)) (pe_callB (k_call_len_seq (K := K) rfl) (by rfl) T.z_len (by decide +kernel) (pa_cons (pv 8) pa_nil))) (fun _ _ => rfl)) pa_nil))))))))
  (pss_one (ps_ret (pe_callTy (k_call_tuple_of (K := K) rfl) (by rfl) T.z_tuple (by decide +kernel) (pa_cons (pv 5) pa_nil))))))), ?_⟩)
  obtain ⟨c, n, k, v, ts, rfl, hn, hk, rv, hok, hdeg, q⟩ := h
  have ed := hok.ed
  refine q_setL (K := K) (xs := drw c (List.replicate n 840)) (el_c2 (x := c) (y := List.replicate n (840 : Int)) (er_vint rfl) (EL.er (EL.is (el_rep1 (x := (840 : Int)) (n := (n : Int)) (el_lst (ea_cons er_int ea_nil)) (er_vint rfl) (by omega) (by omega)) (by rw [Int.toNat_natCast]))) ⟨fun b hb => by rw [(List.mem_replicate.mp hb).2]; decide, by rw [List.length_replicate]; omega⟩) fun pd H1 hpd e1 od => ?_
  refine q_setL (K := K) (α := Int) (xs := []) (el_lst ea_nil) fun p H2 hp e2 o2 => ?_
  have hpH := fresh_back e1 hp
  obtain ⟨ws, hw⟩ := o2.at
  have ne : p ≠ pd := fun z => by obtain ⟨ws, hw⟩ := od.at; rw [← z, hp] at hw; cases hw
  have eG : Ex H (Z.cut H2 p) := cut_of (e1.trans e2) hpH
  refine q_rng (K := K) (n := (n : Int)) (er_vint rfl) (by omega) (by omega) fun H3 e3 => ⟨Z.cut H2 p, fun i σ' H' => (∃ o6 o7 o8, σ' = [some (.int c), some (.int n), some v, some (.int k), some (.ref pd), some (.ref p), o6, o7, o8, none, none]) ∧ ∃ xs, Own K H' p xs ∧ Gr.Part (eds ts) k i xs, cut_ex.trans e3, ⟨⟨_, _, _, rfl⟩, _, o2.mono e3, Gr.Part.nil⟩, ?_, ?_⟩
  · rintro i σ' H4 hi e4 ⟨⟨o6, o7, o8, rfl⟩, xs, ox, part⟩
    rw [Int.toNat_natCast] at hi
    have od' := (od.mono e2).cut hw ne
    have g0 : (List.replicate n (840 : Int))[i]? = some 840 := by rw [List.getElem?_replicate, if_pos hi]
    obtain ⟨x0, hx0, x00, x01⟩ := draw_at (c := c) g0 (by decide)
    have hxl := part.len
    refine q_setL (K := K) (xs := ((List.range (i : Int).toNat).filter fun (o : Nat) => decide (tp2 (o : Int) (i : Int) ∈ ts)).map fun (o : Nat) => xs.getD o 0) (el_rfilter (er_vint rfl) (by omega) (by omega) (fun o H5 ho e5 => et_test (er_inD (x := tp2 (o : Int) (i : Int)) (xs := ts) (er_tup (α := Int) (xs := [_, _]) (ea_cons (er_vint rfl) (ea_cons (er_vint rfl) ea_nil))) (er_var rfl rv (eG.trans (e4.trans e5))))) fun o H5 ho _ e5 => er_ixL (xs := xs) (er_own (i := 5) rfl ox e5) (er_vint rfl) (at_ofN (sAt (by omega)))) fun pt H5 hpt e5 ot => ?_
    generalize htk : ((List.range (i : Int).toNat).filter fun (o : Nat) => decide (tp2 (o : Int) (i : Int) ∈ ts)).map (fun (o : Nat) => xs.getD o 0) = tk at ot
    have htl : tk.length + 2 ≤ k := by
      rw [← htk, List.length_map, Int.toNat_natCast]
      have h1 := Gr.lows_le (E := eds ts) (p := i)
      have h2 := hdeg i hi
      rw [List.filter_congr fun o _ => decide_eq_decide.mpr (tie_pair (o := o) (p := i) hok)]
      omega
    have hin : ∀ o, (o, i) ∈ eds ts → xs.getD o 0 ∈ tk := fun o ho => by
      rw [← htk, Int.toNat_natCast]
      exact List.mem_map.mpr ⟨o, List.mem_filter.mpr ⟨List.mem_range.mpr (ed.lt _ ho).1, decide_eq_true ((tie_pair hok).mpr ho)⟩, rfl⟩
    refine q_setL (K := K) (xs := ((List.range (k : Int).toNat).filter fun (x : Nat) => !decide ((x : Int) ∈ tk)).map fun (x : Nat) => (x : Int)) (el_rfilter (er_vint rfl) (by omega) (by omega) (fun x H6 hx e6 => et_test (er_notInI (x := (x : Int)) (xs := tk) (er_vint rfl) (er_own (i := 7) rfl ot e6))) fun x H6 hx _ e6 => er_vint rfl) fun pf H6 hpf e6 of => ?_
    generalize hfr : ((List.range (k : Int).toNat).filter fun (x : Nat) => !decide ((x : Int) ∈ tk)).map (fun (x : Nat) => (x : Int)) = fr at of
    have hmem : ∀ y, y ∈ fr → (0 ≤ y ∧ y < k) ∧ y ∉ tk := fun y hy => by
      rw [← hfr] at hy
      obtain ⟨x, hx, rfl⟩ := List.mem_map.mp hy
      have := List.mem_filter.mp hx
      have h1 := List.mem_range.mp this.1
      have h2 := this.2
      simp at h2
      exact ⟨by omega, h2⟩
    have hpos : 0 < fr.length := by
      obtain ⟨x, hx, _⟩ := Gr.spare (c := k) (b := -1) (l := tk) htl
      have := List.mem_filter.mp hx
      have h2 := this.2
      simp only [Bool.and_eq_true, decide_eq_true_eq] at h2
      refine List.length_pos_of_mem (a := (x : Int)) ?_
      rw [← hfr, Int.toNat_natCast]
      exact List.mem_map.mpr ⟨x, List.mem_filter.mpr ⟨this.1, by simp [h2.2]⟩, rfl⟩
    have m0 := Int.emod_nonneg x0 (show (fr.length : Int) ≠ 0 by omega)
    have m1 := Int.emod_lt_of_pos x0 (show (0 : Int) < fr.length by omega)
    obtain ⟨y, hy, hy2⟩ := atI_nn (xs := fr) m0 m1
    have hyf := hmem y (List.mem_of_getElem? hy2)
    have e46 := e4.trans (e5.trans e6)
    refine s_app (K := K) (l := 5) rfl (ox.mono (e5.trans e6)) (x := y) (er_ixL (xs := fr) (er_own (i := 8) rfl of (Ex.refl _)) (er_mod (er_int1 (er_ixL (xs := drw c (List.replicate n 840)) (er_own (i := 4) rfl od' e46) (er_vint rfl) hx0)) (ed_lenL (er_own (i := 8) rfl of (Ex.refl _))) (by omega)) hy) (by omega) fun H7 k7 _ o7 => ⟨k7 _ e46 cut_same, ⟨_, _, _, rfl⟩, _, o7, part.snoc (fun e he => (ed.lt e he).1) hyf.1 fun o ho z => hyf.2 (z ▸ hin o ho)⟩
  · rintro σ' H4 e4 ⟨⟨o6, o7, o8, rfl⟩, xs, ox, part⟩
    rw [Int.toNat_natCast] at part
    exact s_ret (K := K) (x := tT xs) (er_tuple (xs := xs) (er_own (i := 5) rfl ox (Ex.refl _))) fun u H5 e5 r5 => q u (tT xs) H5 (eG.trans (e4.trans e5)) r5 (part.prp ed)
def spSpo (K : PySem.W.Frag) : Sp := fun vs H Q _ => ∃ (v z : V) (s : Tp Int) (n : Nat) (ts : List (Tp Int)) (c ch p : Int), vs = [v, z, .int c, .int ch, .int p] ∧ Rep K H v s ∧ Rep K H z ts ∧ n ≤ 100 ∧ ts.length ≤ 100 ∧ TOk n ts ∧ Gr.Prp (eds ts) n c (L s) ∧ ∀ u t H', Ex H H' → Rep K H' u (t : Tp Int) → (L t).length ≤ 1000 → ¬ Gr.Prp (eds ts) n c (L t) → Q u H'
theorem ok_law_spoilt (T : Txt P K mg a) : FnOk P w K mg base CX0 2 a.f_law_spoilt a.d_law_spoilt ["setting", "ties", "colours", "choice", "at"] (spSpo K) := by
  refine T.F_law_spoilt.ok sc_law_spoilt (fun vs H Q E (h : spSpo K vs H Q E) => by obtain ⟨v, z, s, n, ts, c, ch, p, rfl, _⟩ := h; rfl) (fun cdv A outer s0 H vs Q E hr h => ⟨_, (pss_cons (ps_if (PW.pt (pw_or (pt_cmpR op_eq (pv 3) pe_int (nomark _)) (pw_or1 (pt_cmpR op_eq (pe_callB (k_call_len_seq (K := K) rfl) (by rfl) T.z_len (by decide +kernel) (pa_cons (pv 0) pa_nil)) pe_int (nomark _)))))
  (pss_one (ps_ret (pe_op (k_op_catA (K := K) rfl) (pv 0) (pe_tup (pa_cons pe_int pa_nil)))))
  pss_nil)
  (pss_cons (ps_if (PW.pt (pw_and (pt_cmpR op_eq (pv 3) pe_int (nomark _)) (pw_and1 (pt_cmpR op_gt (pe_callB (k_call_len_seq (K := K) rfl) (by rfl) T.z_len (by decide +kernel) (pa_cons (pv 1) pa_nil)) pe_int (nomark _)))))
  (pss_cons (ps_set (i := 5) sc_law_spoilt.nd rfl (Or.inl rfl) (pe_ix (k_ix_list (K := K) rfl) (pv 1) (pe_op op_mod (pe_callTy call_int1 (by rfl) T.z_int (by decide +kernel) (pa_cons (pv 4) pa_nil)) (pe_callB (k_call_len_seq (K := K) rfl) (by rfl) T.z_len (by decide +kernel) (pa_cons (pv 1) pa_nil))) (fun _ _ => rfl)))
  (pss_one (ps_ret (pe_call (ok_law_put T) (hr.mono (by decide)) (by rfl) T.m__law_put T.F_law_put.kp T.b_law_put .nil pass0 (pa_cons (pv 0) (pa_cons (pe_ix (k_ix_tup (K := K) rfl) (pv 5) pe_int (fun _ _ => rfl)) (pa_cons (pe_ix (k_ix_tup (K := K) rfl) (pv 0) (pe_ix (k_ix_tup (K := K) rfl) (pv 5) pe_int (fun _ _ => rfl)) (fun _ _ => rfl)) pa_nil)))))))
  pss_nil)
  (pss_cons (ps_if (pt_cmpR op_eq (pv 3) pe_int (nomark _))
  (pss_one (ps_ret (pe_call (ok_law_put T) (hr.mono (by decide)) (by rfl) T.m__law_put T.F_law_put.kp T.b_law_put .nil pass0 (pa_cons (pv 0) (pa_cons (pe_op op_mod (pe_callTy call_int1 (by rfl) T.z_int (by decide +kernel) (pa_cons (pv 4) pa_nil)) (pe_callB (k_call_len_seq (K := K) rfl) (by rfl) T.z_len (by decide +kernel) (pa_cons (pv 0) pa_nil))) (pa_cons (pv 2) pa_nil))))))
  pss_nil)
  (pss_one (ps_ret (pe_call (ok_law_put T) (hr.mono (by decide)) (by rfl) T.m__law_put T.F_law_put.kp T.b_law_put .nil pass0 (pa_cons (pv 0) (pa_cons (pe_op op_mod (pe_callTy call_int1 (by rfl) T.z_int (by decide +kernel) (pa_cons (pv 4) pa_nil)) (pe_callB (k_call_len_seq (K := K) rfl) (by rfl) T.z_len (by decide +kernel) (pa_cons (pv 0) pa_nil))) (pa_cons (pe_un un_neg pe_int) pa_nil))))))))), ?_⟩)
  obtain ⟨v, z, s, n, ts, c, ch, p, rfl, rv, rz, hn, htl, hok, prp, q⟩ := h
  have hl := prp.len
  refine q_if (K := K) (b := decide (ch = 0) || decide (((L s).length : Int) = 0)) (et_orU (et_test (er_eqI (er_vint rfl) er_int)) (et_test (er_eqI (er_lenT (xs := s) (er_var rfl rv (Ex.refl _)) rfl) er_int))) (fun hb H1 e1 => ?_) (fun hb H1 e1 => ?_)
  · refine s_ret (K := K) (er_catT (xs := s) (ys := (show Tp Int from [(0 : Int)])) (er_var rfl rv e1) (er_tup (α := Int) (xs := [0]) (ea_cons er_int ea_nil)) (by show (L s).length + 1 ≤ _; omega)) fun u H2 e2 r2 => q u _ H2 (e1.trans e2) r2 (by show (L s ++ [(0 : Int)]).length ≤ _; rw [List.length_append]; simp; omega) fun pr => ?_
    have : (L s ++ [(0 : Int)]).length = n := pr.len
    rw [List.length_append] at this
    simp at this
    omega
  rw [Bool.or_eq_false_iff, decide_eq_false_iff_not, decide_eq_false_iff_not] at hb
  have hn0 : 0 < n := by omega
  refine q_if (K := K) (b := decide (ch = 1) && decide (0 < (ts.length : Int))) (et_andU (et_test (er_eqI (er_vint rfl) er_int)) (et_test (er_gt (ed_lenL (er_var (x := ts) rfl rz e1)) er_int))) (fun hc H2 e2 => ?_) (fun hc H2 e2 => ?_)
  · rw [Bool.and_eq_true, decide_eq_true_eq, decide_eq_true_eq] at hc
    have e02 := e1.trans e2
    have m0 := Int.emod_nonneg p (show (ts.length : Int) ≠ 0 by omega)
    have m1 := Int.emod_lt_of_pos p hc.2
    obtain ⟨t, ht, ht2⟩ := atI_nn (xs := ts) m0 m1
    have htm := List.mem_of_getElem? ht2
    have ok := hok.ok t htm
    have t0 := ok.h0
    have t1 := ok.lt
    have t2 := ok.hn
    have tl := ok.len
    refine q_set (K := K) (x := t) (er_ixL (xs := ts) (er_var rfl rz e02) (er_mod (er_int1 (er_vint rfl)) (ed_lenL (er_var (x := ts) rfl rz e02)) hc.2) ht) fun vt H3 e3 rt => ?_
    have a0 : atI (α := Int) (L t) 0 = some ((L t).getD 0 0) := at_ofN (k := 0) (sAt (by show 0 < List.length t; omega))
    have a1 : atI (α := Int) (L t) 1 = some ((L t).getD 1 0) := at_ofN (k := 1) (sAt (by show 1 < List.length t; omega))
    have as : atI (α := Int) (L s) ((L t).getD 1 0) = some ((L s).getD ((L t).getD 1 0).toNat 0) := by
      have := at_ofN (sAt (s := L s) (k := ((L t).getD 1 0).toNat) (by omega))
      rw [Int.toNat_of_nonneg (by omega)] at this
      exact this
    refine s_ret (K := K) (er_c3 (x := s) (y := (L t).getD 0 0) (z := (L s).getD ((L t).getD 1 0).toNat 0) (er_var rfl rv (e02.trans e3)) (er_ixT (xs := t) (er_var rfl rt (Ex.refl _)) er_int a0) (er_ixT (xs := s) (er_var rfl rv (e02.trans e3)) (er_ixT (xs := t) (er_var rfl rt (Ex.refl _)) er_int a1) as) ⟨t0, by omega, by omega⟩) fun u H4 e4 r4 => q u _ H4 (e02.trans (e3.trans e4)) r4 (by rw [put_len]; omega) fun pr => ?_
    have := pr.pr _ (tie_e htm)
    apply this
    show ((L s).set _ _).getD _ 0 = ((L s).set _ _).getD _ 0
    rw [Gr.getD_set (by omega), Gr.getD_set (by omega), if_pos rfl, if_neg (by omega)]
  have e02 := e1.trans e2
  have m0 := Int.emod_nonneg p (show ((L s).length : Int) ≠ 0 by omega)
  have m1 := Int.emod_lt_of_pos p (show (0 : Int) < ((L s).length : Int) by omega)
  have bad : ∀ x : Int, (¬ (0 ≤ x ∧ x < c)) → ¬ Gr.Prp (eds ts) n c (L (putT s (p % ((L s).length : Int)) x)) := fun x hx pr => hx (pr.rng x (by
    show x ∈ (L s).set _ x
    exact List.mem_iff_getElem?.mpr ⟨(p % ((L s).length : Int)).toNat, by rw [List.getElem?_set_self (by omega)]⟩))
  refine q_if (K := K) (b := decide (ch = 2)) (et_test (er_eqI (er_vint rfl) er_int)) (fun hd H3 e3 => ?_) (fun hd H3 e3 => ?_)
  · exact s_ret (K := K) (er_c3 (x := s) (y := p % ((L s).length : Int)) (z := c) (er_var rfl rv (e02.trans e3)) (er_mod (er_int1 (er_vint rfl)) (er_lenT (xs := s) (er_var rfl rv (e02.trans e3)) rfl) (by omega)) (er_vint rfl) ⟨m0, m1, by omega⟩) fun u H4 e4 r4 => q u _ H4 (e02.trans (e3.trans e4)) r4 (by rw [put_len]; omega) (bad c (by omega))
  · exact s_ret (K := K) (er_c3 (x := s) (y := p % ((L s).length : Int)) (z := -1) (er_var rfl rv (e02.trans e3)) (er_mod (er_int1 (er_vint rfl)) (er_lenT (xs := s) (er_var rfl rv (e02.trans e3)) rfl) (by omega)) (er_neg er_int) ⟨m0, m1, by omega⟩) fun u H4 e4 r4 => q u _ H4 (e02.trans (e3.trans e4)) r4 (by rw [put_len]; omega) (bad (-1) (by omega))
/-- a proper colouring -/
def spLCd (K : PySem.W.Frag) : Sp := fun vs H Q _ => ∃ (v z : V) (s : Tp Int) (n : Nat) (ts : List (Tp Int)) (c : Int), vs = [v, .int n, z, .int c] ∧ Rep K H v s ∧ Rep K H z ts ∧ n ≤ 100 ∧ ts.length ≤ 100 ∧ TOk n ts ∧ Gr.Prp (eds ts) n c (L s) ∧ ∀ H', Ex H H' → Q (.bl true) H'
theorem ok_law_coloured (T : Txt P K mg a) : FnOk P w K mg base CX0 1 a.f_law_coloured a.d_law_coloured ["setting", "places", "ties", "colours"] (spLCd K) := by
  refine T.F_law_coloured.ok sc_law_coloured (fun vs H Q E (h : spLCd K vs H Q E) => by obtain ⟨v, z, s, n, ts, c, rfl, _⟩ := h; rfl) (fun cdv A outer s0 H vs Q E hr h => ⟨_, (pss_cons (ps_if (PW.pt (pw_or (pt_not (pt_val (pe_callB (k_call_isi (K := K) rfl) (by rfl) T.z_isinstance (by decide +kernel) (pa_cons (pv 0) (pa_cons (pe_bltn (v := .ty "tuple") (by rfl) T.z_tuple (by decide +kernel) rfl) pa_nil))))) (pw_or1 (pt_cmpR op_ne (pe_callB (k_call_len_seq (K := K) rfl) (by rfl) T.z_len (by decide +kernel) (pa_cons (pv 0) pa_nil)) (pv 1) (nomark _)))))
  (pss_one (ps_ret pe_bl))
  pss_nil)
  (pss_cons (ps_for PassesOwn.never rfl (k_pi_tup (K := K) rfl (pv 0)) (pg_name (i := 4) sc_law_coloured.nd rfl (Or.inl rfl))
  (pss_one (ps_if (PW.pt (pw_or (pt_not (pt_val (pe_callB (k_call_isi (K := K) rfl) (by rfl) T.z_isinstance (by decide +kernel) (pa_cons (pv 4) (pa_cons (pe_bltn (v := .ty "int") (by rfl) T.z_int (by decide +kernel) rfl) pa_nil))))) (pw_or (pt_val (pe_callB (k_call_isi (K := K) rfl) (by rfl) T.z_isinstance (by decide +kernel) (pa_cons (pv 4) (pa_cons (pe_bltn (v := .ty "bool") (by rfl) T.z_bool (by decide +kernel) rfl) pa_nil)))) (pw_or (pt_cmpR op_lt (pv 4) pe_int (nomark _)) (pw_or1 (pt_cmpR op_ge (pv 4) (pv 3) (nomark _)))))))
  (pss_one (ps_ret pe_bl))
  pss_nil)))
  (pss_one (ps_ret (pe_callB (k_cr_all (K := K) rfl rfl) (by rfl) T.z_all (by decide +kernel) (pa_cons (pe_lc (own := [("tie", 5)]) rfl sc_law_coloured.nd (k_pi_list (K := K) rfl (pv 2)) (blkOk_by (own := [("tie", 5)]) (N := N_law_coloured) (sc := defScope s_law_coloured) (by decide +kernel)) (fun _ _ _ _ _ => (pg_name (i := 5) sc_law_coloured.nd rfl (Or.inl rfl))) (fun _ _ _ _ _ => pts_nil) (fun _ _ _ _ _ => (pe_cmpR op_ne (pe_ix (k_ix_tup (K := K) rfl) (pv 0) (pe_ix (k_ix_tup (K := K) rfl) (pv 5) pe_int (fun _ _ => rfl)) (fun _ _ => rfl)) (pe_ix (k_ix_tup (K := K) rfl) (pv 0) (pe_ix (k_ix_tup (K := K) rfl) (pv 5) pe_int (fun _ _ => rfl)) (fun _ _ => rfl)) (nomark _)))) pa_nil)))))), ?_⟩)
  obtain ⟨v, z, s, n, ts, c, rfl, rv, rz, hn, htl, hok, prp, q⟩ := h
  have hl := prp.len
  refine q_ifF (K := K) (et_orU (et_not (et_B (er_isi_tup (xs := s) (er_var rfl rv (Ex.refl _))))) (et_test (er_neI (er_lenT (xs := s) (er_var rfl rv (Ex.refl _)) rfl) (er_vint rfl)))) (by
    have : (List.length s : Int) = n := by rw [← hl]
    simp [this]) fun H1 e1 => ?_
  refine q_forT (K := K) (xs := s) (er_var rfl rv e1) fun pa vs H2 e2 sq rs => ⟨H2, fun i σ' _ => ∃ o4, σ' = [some v, some (.int n), some z, some (.int c), o4, none], Ex.refl _, sq, rs, ⟨_, rfl⟩, ?_, ?_⟩
  · rintro i x v' σ' H3 hx e3 rx ⟨o4, rfl⟩
    obtain rfl := Rep.int rx
    have hr := prp.rng x (List.mem_of_getElem? hx)
    exact s_ifF (K := K) (et_orU (et_not (et_B (er_isi_int (er_vint rfl)))) (et_orU (et_B (er_isi_intb (er_vint rfl))) (et_orU (et_test (er_lt (er_vint rfl) er_int)) (et_test (er_ge (er_vint rfl) (er_vint rfl)))))) (by simp; omega) fun H4 e4 => ⟨e3.trans e4, _, rfl⟩
  · rintro σ' H3 e3 ⟨o4, rfl⟩
    have e03 := e1.trans (e2.trans e3)
    refine s_ret (K := K) (x := true) (ER.is (er_all (EL.er (el_genA (xs := ts) (f := fun _ => true) (in_list (er_var rfl rz e03)) (g_name (i := 5) gr_rep) (fun t σ2 H2 ht e2 s2 => ?_) (by omega)))) (by simp)) fun u H4 e4 r4 => by
      rw [Rep.bool r4]
      exact q H4 (e03.trans e4)
    obtain ⟨y, rfl, ry⟩ := s2
    have ok := hok.ok t ht
    have t0 := ok.h0
    have t1 := ok.lt
    have t2 := ok.hn
    have tl := ok.len
    have a0 : atI (α := Int) (L t) 0 = some ((L t).getD 0 0) := at_ofN (k := 0) (sAt (by show 0 < List.length t; omega))
    have a1 : atI (α := Int) (L t) 1 = some ((L t).getD 1 0) := at_ofN (k := 1) (sAt (by show 1 < List.length t; omega))
    have as : ∀ i : Int, 0 ≤ i → i < n → atI (α := Int) (L s) i = some ((L s).getD i.toNat 0) := fun i h0 h1 => by
      have := at_ofN (sAt (s := L s) (k := i.toNat) (by omega))
      rw [Int.toNat_of_nonneg h0] at this
      exact this
    exact ER.is (er_neI (er_ixT (xs := s) (er_var rfl rv (e03.trans e2)) (er_ixT (xs := t) (er_var rfl ry (Ex.refl _)) er_int a0) (as _ t0 (by omega))) (er_ixT (xs := s) (er_var rfl rv (e03.trans e2)) (er_ixT (xs := t) (er_var rfl ry (Ex.refl _)) er_int a1) (as _ (by omega) t2))) (by
      rw [decide_eq_false (prp.pr _ (tie_e ht))]
      rfl)
theorem er_lcd {E : XK} {H : Hp} {ta tb tc td : TE} {σ : L2.St} {s : Tp Int} {n : Nat} {ts : List (Tp Int)} {c : Int} (h1 : ER K ta σ H s) (h2 : ER K tb σ H (n : Int)) (h3 : ER K tc σ H ts) (h4 : ER K td σ H c) (hn : n ≤ 100) (hl : ts.length ≤ 100) (ok : TOk n ts) (p : Gr.Prp (eds ts) n c (L s)) :
    ER K (tCall (spLCd K) [] E (tCons ta (tCons tb (tCons tc (tCons td tNil))))) σ H true := by
  refine er_call (as_r h1 (as_v h2.evI (as_r h3 (as_v h4.evI as_nil)))) ?_
  rintro vs H' Q e' ⟨v, _, rfl, rv, _, rfl, z, _, rfl, rz, _, rfl, rfl⟩ q
  exact ⟨v, z, s, n, ts, c, rfl, rv, rz, hn, hl, ok, p, fun H2 e2 => q _ H2 e2 (rep_bool _)⟩
def spRS (K : PySem.W.Frag) (C : Addr) : Sp := fun vs H Q _ => ∃ (r l : Addr) (v u z : V) (s g : Tp Int) (n : Nat) (ts : List (Tp Int)) (c : Int) (ss : List (List Int)), vs = [.ref r, v, u, z, .int c] ∧ RowAt K C H r l (rT ss) ∧ Rep K H v s ∧ Rep K H u g ∧ Rep K H z ts ∧ n ≤ 100 ∧ ts.length ≤ 100 ∧ TOk n ts ∧ Gr.Led (eds ts) n c (L s) (L g) n ss ∧ Gr.Prp (eds ts) n c (L g) ∧ ∀ H', Ex H H' → Q (.bl true) H'
theorem ok_law_row_stands (T : Txt P K mg a) : FnOk P w K mg base CX0 2 a.f_law_row_stands a.d_law_row_stands ["row", "start", "goal", "ties", "colours"] (spRS K a.C_Row) := by
  refine T.F_law_row_stands.ok sc_law_row_stands (fun vs H Q E (h : spRS K a.C_Row vs H Q E) => by obtain ⟨r, l, v, u, z, s, g, n, ts, c, ss, rfl, _⟩ := h; rfl) (fun cdv A outer s0 H vs Q E hr h => ⟨_, (pss_cons (ps_if (PW.pt (pw_or (pt_not (pt_val (pe_callB (k_call_isi (K := K) rfl) (by rfl) T.z_isinstance (by decide +kernel) (pa_cons (pv 0) (pa_cons (pe_glob (v := .ref a.C_Row) (by rfl) T.m_Row rfl) pa_nil))))) (pw_or1 (pt_not (pt_val (pe_callB (k_call_isi (K := K) rfl) (by rfl) T.z_isinstance (by decide +kernel) (pa_cons (k_pe_fld (K := K) rfl (pe_fld (pv 0) (by rfl))) (pa_cons (pe_bltn (v := .ty "list") (by rfl) T.z_list (by decide +kernel) rfl) pa_nil))))))))
  (pss_one (ps_ret pe_bl))
  pss_nil)
  (pss_cons (ps_set (i := 5) sc_law_row_stands.nd rfl (Or.inr rfl) (k_pe_fld (K := K) rfl (pe_fld (pv 0) (by rfl))))
  (pss_cons (ps_if (PW.pt (pw_or (pt_cmpR op_lt (pe_callB (k_call_len_seq (K := K) rfl) (by rfl) T.z_len (by decide +kernel) (pa_cons (pv 5) pa_nil)) pe_int (nomark _)) (pw_or1 (pt_cmpR op_gt (pe_callB (k_call_len_seq (K := K) rfl) (by rfl) T.z_len (by decide +kernel) (pa_cons (pv 5) pa_nil)) (pe_op op_add (pe_op op_add (pe_callB (k_call_len_seq (K := K) rfl) (by rfl) T.z_len (by decide +kernel) (pa_cons (pv 1) pa_nil)) (pe_callB (k_call_len_seq (K := K) rfl) (by rfl) T.z_len (by decide +kernel) (pa_cons (pv 3) pa_nil))) pe_int) (nomark _)))))
  (pss_one (ps_ret pe_bl))
  pss_nil)
  (pss_cons (ps_if (pt_not (pt_val (pe_callB (k_cr_all (K := K) rfl rfl) (by rfl) T.z_all (by decide +kernel) (pa_cons (pe_lc (own := [("setting", 9)]) rfl sc_law_row_stands.nd (k_pi_list (K := K) rfl (pv 5)) (blkOk_by (own := [("setting", 9)]) (N := N_law_row_stands) (sc := defScope s_law_row_stands) (by decide +kernel)) (fun _ _ _ _ _ => (pg_name (i := 9) sc_law_row_stands.nd rfl (Or.inl rfl))) (fun _ _ _ _ _ => pts_nil) (fun _ _ _ _ _ => (pe_call (ok_law_coloured T) (hr.mono (by decide)) (by rfl) T.m__law_coloured T.F_law_coloured.kp T.b_law_coloured .nil pass0 (pa_cons (pv 9) (pa_cons (pe_callB (k_call_len_seq (K := K) rfl) (by rfl) T.z_len (by decide +kernel) (pa_cons (pv 1) pa_nil)) (pa_cons (pv 3) (pa_cons (pv 4) pa_nil))))))) pa_nil))))
  (pss_one (ps_ret pe_bl))
  pss_nil)
  (pss_cons (ps_for PassesOwn.never rfl (pi_range1 (by rfl) T.z_range (pa_cons (pe_op op_sub (pe_callB (k_call_len_seq (K := K) rfl) (by rfl) T.z_len (by decide +kernel) (pa_cons (pv 5) pa_nil)) pe_int) pa_nil)) (pg_name (i := 6) sc_law_row_stands.nd rfl (Or.inr rfl))
  (pss_cons (ps_setLc (i := 7) (own := [("at", 8)]) rfl sc_law_row_stands.nd rfl rfl (sw_true rfl rfl rfl (by decide +kernel)) (pi_range1 (by rfl) T.z_range (pa_cons (pe_callB (k_call_len_seq (K := K) rfl) (by rfl) T.z_len (by decide +kernel) (pa_cons (pv 1) pa_nil)) pa_nil)) (blkOk_by (own := [("at", 8)]) (N := N_law_row_stands) (sc := defScope s_law_row_stands) (by decide +kernel)) (fun _ _ _ _ _ => (pg_name (i := 8) sc_law_row_stands.nd rfl (Or.inl rfl))) (fun _ _ _ _ _ => (pts_one (pt_cmpR op_ne (pe_ix (k_ix_tup (K := K) rfl) (pe_ix (k_ix_list (K := K) rfl) (pv 5) (pv 6) (fun _ _ => rfl)) (pv 8) (fun _ _ => rfl)) (pe_ix (k_ix_tup (K := K) rfl) (pe_ix (k_ix_list (K := K) rfl) (pv 5) (pe_op op_add (pv 6) pe_int) (fun _ _ => rfl)) (pv 8) (fun _ _ => rfl)) (nomark _)))) (fun _ _ _ _ _ => (pv 8)))
  (pss_one (ps_if (pt_cmpR op_ne (pe_callB (k_call_len_seq (K := K) rfl) (by rfl) T.z_len (by decide +kernel) (pa_cons (pv 7) pa_nil)) pe_int (nomark _))
  (pss_one (ps_ret pe_bl))
  pss_nil))))
  (pss_one (ps_ret (pe_and (pe_cmpR (k_op_eqD (K := K) rfl hr.units) (pe_ix (k_ix_list (K := K) rfl) (pv 5) pe_int (fun _ _ => rfl)) (pv 1) (nomark _)) (pe_one (pe_cmpR (k_op_eqD (K := K) rfl hr.units) (pe_ix (k_ix_list (K := K) rfl) (pv 5) (pe_un un_neg pe_int) (fun _ _ => rfl)) (pv 2) (nomark _))))))))))), ?_⟩)
  obtain ⟨r, l, v, u, z, s, g, n, ts, c, ss, rfl, R, rv, ru, rz, hn, htl, hok, Ld, pg, q⟩ := h
  have ty : ∀ H2, Ex H H2 → TyX K H2 (.ref r) (.ref a.C_Row) := fun H2 e2 => by
    obtain ⟨⟨dx, h1⟩, _⟩ := R
    exact T.ty_Row H2 r dx _ (e2 _ _ h1)
  have hne := Ld.way.ne
  have hsl : 0 < ss.length := List.length_pos_iff.mpr hne
  have hs0 : (L s).length = n := (Ld.way.all _ (List.mem_of_mem_head? (by rw [Ld.way.hd]; rfl))).len
  have hs1 : List.length s = n := hs0
  have hlen : ss.length ≤ 1 + n + ts.length := by
    have h1 := Ld.len
    have h2 := Gr.below_le (E := eds ts) (m := n)
    have h3 : (eds ts).length = ts.length := List.length_map ..
    omega
  refine q_ifF (K := K) (et_orU (et_not (et_B (er_isiO (ev_var rfl) ty (.own _) T.kit_Row_Row))) (et_not (et_B (er_isi_list (R.em T (ev_var rfl) (Ex.refl _)).er)))) (by simp) fun H1 e1 => ?_
  refine q_set (K := K) (x := rT ss) (R.em T (ev_var rfl) e1).er fun vs H2 e2 rs => ?_
  have e02 := e1.trans e2
  have elen : ∀ {σ : L2.St} {G : Hp}, σ[5]? = some (some vs) → Ex H2 G → ER K (tCB (fun xs H Q => ∃ p ys, xs = [.ref p] ∧ (SqL K H p ys ∨ SqT K H p ys) ∧ Q (.int ys.length) H) (tCons (tVar 5) tNil)) σ G (ss.length : Int) := fun h e => er_len (er_var (x := rT ss) h rs e) rfl
  refine q_ifF (K := K) (et_orU (et_test (er_lt (elen rfl (Ex.refl _)) er_int)) (et_test (er_gt (elen rfl (Ex.refl _)) (er_add (er_add (er_lenT (xs := s) (er_var rfl rv e02) rfl) (ed_lenL (er_var (x := ts) rfl rz e02))) er_int)))) (by
    rw [Bool.or_eq_false_iff, decide_eq_false_iff_not, decide_eq_false_iff_not]
    omega) fun H3 e3 => ?_
  have e03 := e02.trans e3
  refine q_ifF (K := K) (et_not (et_B (ER.is (er_all (EL.er (el_genA (xs := rT ss) (f := fun _ => true) (in_list (er_var rfl rs e3)) (g_name (i := 9) gr_rep) (fun t σ2 H4 ht e4 s2 => ?_) (by show ss.length ≤ _; omega)))) (show _ = true by simp)))) rfl fun H4 e4 => ?_
  · obtain ⟨y, rfl, ry⟩ := s2
    exact er_lcd (s := t) (er_var rfl ry (Ex.refl _)) (er_lenT (xs := s) (er_var rfl rv (e03.trans e4)) (by rw [hs1])) (er_var rfl rz (e03.trans e4)) (er_vint rfl) hn htl hok (Ld.way.all t ht)
  have e04 := e03.trans e4
  refine q_rng (K := K) (n := (ss.length : Int) - 1) (er_sub (elen rfl (e3.trans e4)) er_int) (by omega) (by omega) fun H5 e5 => ⟨H2, fun i σ' _ => ∃ o6 o7, σ' = [some (.ref r), some v, some u, some z, some (.int c), some vs, o6, o7, none, none], e3.trans (e4.trans e5), ⟨_, _, rfl⟩, ?_, ?_⟩
  · rintro i σ' H6 hi e6 ⟨o6, o7, rfl⟩
    have hi1 : i + 1 < ss.length := by omega
    obtain ⟨x, hx⟩ : ∃ x, ss[i]? = some x := ⟨_, List.getElem?_eq_getElem (by omega)⟩
    obtain ⟨y, hy⟩ : ∃ y, ss[i + 1]? = some y := ⟨_, List.getElem?_eq_getElem hi1⟩
    have hxl := (Ld.way.all x (List.mem_of_getElem? hx)).len
    have hyl := (Ld.way.all y (List.mem_of_getElem? hy)).len
    have ax : atI (rT ss) (i : Int) = some (tT x) := at_ofN (xs := rT ss) (k := i) hx
    have ay : atI (rT ss) ((i : Int) + 1) = some (tT y) := by
      have := at_ofN (xs := rT ss) (k := i + 1) hy
      rw [show (((i + 1 : Nat) : Int)) = (i : Int) + 1 by omega] at this
      exact this
    have ap := (Ld.way.stp i x y hx hy).one
    have rs6 : Rep K H6 vs (rT ss) := rs.mono e6
    have e06 := e02.trans e6
    refine q_setL (K := K) (xs := ((List.range ((List.length s : Nat) : Int).toNat).filter fun (j : Nat) => !decide (x.getD j 0 = y.getD j 0)).map fun (j : Nat) => (j : Int)) (el_rfilter (n := ((List.length s : Nat) : Int)) (er_lenT (xs := s) (er_var rfl rv e06) rfl) (by omega) (by omega) (fun j H7 hj e7 => et_test (er_neI (er_ixT (xs := tT x) (er_ixL (xs := rT ss) (er_var rfl rs6 e7) (er_vint rfl) ax) (er_vint rfl) (at_ofN (sAt (s := x) (by omega)))) (er_ixT (xs := tT y) (er_ixL (xs := rT ss) (er_var rfl rs6 e7) (er_add (er_vint rfl) er_int) ay) (er_vint rfl) (at_ofN (sAt (s := y) (by omega)))))) fun j H7 _ _ e7 => er_vint rfl) fun pa H7 hpa e7 oa => ?_
    refine s_ifF (K := K) (et_test (er_neI (ed_lenL (er_own (i := 7) rfl oa (Ex.refl _))) er_int)) (by
      rw [Int.toNat_natCast, hs1, List.length_map, ap]
      rfl) fun H8 e8 => ⟨e6.trans (e7.trans e8), _, _, rfl⟩
  · rintro σ' H6 e6 ⟨o6, o7, rfl⟩
    have e06 := e02.trans e6
    have a0 : atI (rT ss) 0 = some s := by
      have := Ld.way.hd
      rw [List.head?_eq_getElem?] at this
      exact at_ofN (xs := rT ss) (k := 0) this
    obtain ⟨cur, hc⟩ : ∃ cur, ss.getLast? = some cur := ⟨_, List.getLast?_eq_some_getLast hne⟩
    have hcg := Ld.done pg hc
    have am : atI (rT ss) (-1) = some g := at_m1 (xs := rT ss) (by rw [show (rT ss).getLast? = ss.getLast? from rfl, hc, hcg]; rfl)
    refine s_ret (K := K) (x := true) (ER.is (er_andU (er_eqD (x := s) (y := s) (er_ixL (xs := rT ss) (er_var rfl rs e6) er_int a0) (er_var rfl rv e06)) (er_eqD (x := g) (y := g) (er_ixL (xs := rT ss) (er_var rfl rs e6) (er_neg er_int) am) (er_var rfl ru e06))) (by simp)) fun b H7 e7 r7 => ?_
    rw [Rep.bool r7]
    exact q H7 (e06.trans e7)
end
set_option Elab.async false
set_option linter.all false
set_option maxRecDepth 100000
set_option maxHeartbeats 1600000
set_option autoImplicit false
open PySem L2 Z
open Evl (Ex)
/-! the frozen pairs -/
def frT (n : Nat) : List (Tp Int) := (List.range n).flatMap fun (x : Nat) => ((List.range n).filter fun (y : Nat) => !decide ((x : Int) = (y : Int))).map fun (y : Nat) => tp2 (x : Int) ((n : Int) + (y : Int))
def frS (n : Nat) : List Int := (List.range (2 * n)).map fun (k : Nat) => (k : Int) % (n : Int)
def frO (n : Nat) : List Int := (frS n).map fun v => (n : Int) - 1 - v
def frBar (n p : Nat) : List Int := (frS n).getD p 0 :: (ii (Gr.nb (eds (frT n)) p)).map fun o => (frS n).getD o.toNat 0
def frOk (n : Nat) : Bool := decide ((frT n).map nrm = frT n) && (decide ((frT n).Pairwise fun a b => codeT 64 a ≤ codeT 64 b) && (decide (webBad ((2 * n : Nat) : Int) (frT n) = none) && (decide (Gr.mostD (2 * n) (eds (frT n)) + 1 = n) &&
  (colB (2 * n) (frT n) n (frS n) && (colB (2 * n) (frT n) ((n : Int) + 1) (frS n) && (colB (2 * n) (frT n) ((n : Int) + 1) (frO n) &&
  (((List.range (2 * n)).all fun p => (List.range n).all fun c => decide ((c : Int) = (frS n).getD p 0) || !colB (2 * n) (frT n) n ((frS n).set p (c : Int))) &&
  (((List.range (2 * n)).all fun p => (List.range n).all fun c => decide ((c : Int) ∈ frBar n p)) && (decide ((frT n).length ≤ 60) && (frT n).all fun t => decide (List.length t = 2))))))))))
theorem fr_all : ∀ n : Nat, n < 8 → 2 ≤ n → frOk n = true := by decide +kernel
structure Fr (n : Nat) : Prop where
  web : webT (frT n) = frT n
  ok : webBad ((2 * n : Nat) : Int) (frT n) = none
  most : Gr.mostD (2 * n) (eds (frT n)) + 1 = n
  s1 : colB (2 * n) (frT n) n (frS n) = true
  s2 : colB (2 * n) (frT n) ((n : Int) + 1) (frS n) = true
  o2 : colB (2 * n) (frT n) ((n : Int) + 1) (frO n) = true
  put : ∀ p c, p < 2 * n → c < n → (c : Int) ≠ (frS n).getD p 0 → colB (2 * n) (frT n) n ((frS n).set p (c : Int)) = false
  bar : ∀ p c : Nat, p < 2 * n → c < n → (c : Int) ∈ frBar n p
  len : (frT n).length ≤ 60
  two : Two (frT n)
theorem fr_ok {n : Nat} (h0 : 2 ≤ n) (h1 : n < 8) : Fr n := by
  have h := fr_all n h1 h0
  unfold frOk at h
  simp only [Bool.and_eq_true, decide_eq_true_eq] at h
  obtain ⟨a1, a2, a3, a4, a5, a6, a7, a8, a9, a10, a11⟩ := h
  refine ⟨?_, a3, a4, a5, a6, a7, fun p c hp hc hne => ?_, fun p c hp hc => ?_, a10, fun t ht => ?_⟩
  · unfold webT srtK
    rw [a1]
    exact List.mergeSort_of_pairwise (a2.imp fun h => decide_eq_true h)
  · have := List.all_eq_true.mp (List.all_eq_true.mp a8 p (List.mem_range.mpr hp)) c (List.mem_range.mpr hc)
    rw [decide_eq_false hne] at this
    simpa using this
  · have := List.all_eq_true.mp (List.all_eq_true.mp a9 p (List.mem_range.mpr hp)) c (List.mem_range.mpr hc)
    exact of_decide_eq_true this
  · exact of_decide_eq_true (List.all_eq_true.mp a11 t ht)
theorem frS_len {n : Nat} : (frS n).length = 2 * n := by unfold frS; rw [List.length_map, List.length_range]
section
variable {P : Program} {w : World} {K : PySem.W.Frag} {mg : Str → Option Value} {base : Heap} {a : Ad}
/-- next_answers where every colour is barred -/
def spNextE (K : PySem.W.Frag) (C CW : Addr) : Sp := fun vs H Q _ => ∃ (x : Addr) (n c : Nat) (ts : List (Tp Int)) (v : V) (s : Tp Int), vs = [.ref x, v] ∧ ColAt K C CW H x n ts c ∧ Rep K H v s ∧ (L s).length = n ∧ c ≤ 100 ∧ (∀ p k : Nat, p < n → k < c → (k : Int) ∈ (L s).getD p 0 :: (ii (Gr.nb (eds ts) p)).map fun o => (L s).getD o.toNat 0) ∧ ∀ p H', H p = none → Ex H H' → Own K H' p ([] : List (Tp Int)) → Q (.ref p) H'
theorem ok_Colours_next_answers (T : Txt P K mg a) : FnOk P w K mg base CX0 2 a.f_Colours_next_answers a.d_Colours_next_answers ["self", "setting"] (spNextE K a.C_Colours a.C_Web) := by
  refine T.F_Colours_next_answers.ok sc_Colours_next_answers (fun vs H Q E (h : spNextE K a.C_Colours a.C_Web vs H Q E) => by obtain ⟨x, n, c, ts, v, s, rfl, _⟩ := h; rfl) (fun cdv A outer s H vs Q E hr h => ⟨_, (pss_cons (ps_set (i := 2) sc_Colours_next_answers.nd rfl (Or.inl rfl) (pe_lst pa_nil))
  (pss_cons (ps_for PassesOwn.never rfl (pi_range1 (by rfl) T.z_range (pa_cons (k_pe_fld (K := K) rfl (pe_fld (pv 0) (by rfl))) pa_nil)) (pg_name (i := 3) sc_Colours_next_answers.nd rfl (Or.inl rfl))
  (pss_cons (ps_set (i := 4) sc_Colours_next_answers.nd rfl (Or.inl rfl) (pe_op op_cat (pe_lst (pa_cons (pe_ix (k_ix_tup (K := K) rfl) (pv 1) (pv 3) (fun _ _ => rfl)) pa_nil)) (pe_lc (own := [("other", 6)]) rfl sc_Colours_next_answers.nd (k_pi_list (K := K) rfl (pe_ix (k_ix_list (K := K) rfl) (k_pe_fld (K := K) rfl (pe_fld (k_pe_fld (K := K) rfl (pe_fld (pv 0) (by rfl))) (by rfl))) (pv 3) (fun _ _ => rfl))) (blkOk_by (own := [("other", 6)]) (N := N_Colours_next_answers) (sc := defScope s_Colours_next_answers) (by decide +kernel)) (fun _ _ _ _ _ => (pg_name (i := 6) sc_Colours_next_answers.nd rfl (Or.inl rfl))) (fun _ _ _ _ _ => pts_nil) (fun _ _ _ _ _ => (pe_ix (k_ix_tup (K := K) rfl) (pv 1) (pv 6) (fun _ _ => rfl))))))
  (pss_one (ps_for PassesOwn.never rfl (pi_range1 (by rfl) T.z_range (pa_cons (k_pe_fld (K := K) rfl (pe_fld (pv 0) (by rfl))) pa_nil)) (pg_name (i := 5) sc_Colours_next_answers.nd rfl (Or.inl rfl))
  (pss_one (ps_if (pt_cmpR (k_op_notIn_seq (K := K) rfl) (pv 5) (pv 4) (by with_unfolding_all rfl))
  (pss_one (ps_expr (k_pe_bm (K := K) rfl (pe_bm PySem.F.plainAttrs_list PySem.F.slot_list_append PySem.F.type_list_append mt_append (pv 2) (pa_cons (pe_call (ok_with_value T) (hr.mono (by decide)) (by rfl) T.m_with_value T.F_with_value.kp T.b_with_value .nil pass0 (pa_cons (pv 1) (pa_cons (pv 3) (pa_cons (pv 5) pa_nil)))) pa_nil)))))
  pss_nil))))))
  (pss_one (ps_ret (pe_callB (k_cr_sortedD (K := K) rfl hr.units) (by rfl) T.z_sorted (by decide +kernel) (pa_cons (pv 2) pa_nil)))))), ?_⟩)
  obtain ⟨x, n, c, ts, v, s, rfl, ⟨dx, w, h1, W⟩, r, hl, hc, hbar, q⟩ := h
  obtain ⟨dw, pt, pn, hw1, hw2, hw3⟩ := W.at_.fields W.ok
  have ed := W.ok.ed
  have hn := W.hn
  refine q_setL (K := K) (α := Tp Int) (xs := []) (el_lst ea_nil) fun p H1 hp e1 o1 => ?_
  have size : ∀ {σ : L2.St} {G : Hp}, σ[0]? = some (some (.ref x)) → Ex H G → ER K (tFld K (tVar 0) "size") σ G (n : Int) := fun h e => (ev_fld (ev_var h) h1 e T.cl_Colours T.na_Colours_size rfl).er (rep_int _)
  have cols : ∀ {σ : L2.St} {G : Hp}, σ[0]? = some (some (.ref x)) → Ex H G → ER K (tFld K (tVar 0) "colours") σ G (c : Int) := fun h e => (ev_fld (ev_var h) h1 e T.cl_Colours T.na_Colours_colours rfl).er (rep_int _)
  have web : ∀ {σ : L2.St} {G : Hp}, σ[0]? = some (some (.ref x)) → Ex H G → EV K (tFld K (tVar 0) "web") σ G (.ref w) := fun h e => ev_fld (ev_var h) h1 e T.cl_Colours T.na_Colours_web rfl
  refine q_rng (K := K) (n := (n : Int)) (size rfl e1) (by omega) (by omega) fun H2 e2 => ⟨H1, fun i σ' _ => ∃ o3 o4 o5, σ' = [some (.ref x), some v, some (.ref p), o3, o4, o5, none], e2, ⟨_, _, _, rfl⟩, ?_, ?_⟩
  · rintro i σ' H3 hi e3 ⟨o3, o4, o5, rfl⟩
    rw [Int.toNat_natCast] at hi
    have e03 := e1.trans e3
    have hdl : (Gr.nb (eds ts) i).length ≤ 1000 := by
      have nd := Gr.nb_nodup (k := i) W.ok.lt ed.nd
      have := Gr.length_sub (m := List.range n) nd fun y hy => by
        rcases Gr.mem_nb.mp hy with z | z <;> have := ed.bd _ z <;> exact List.mem_range.mpr (by omega)
      rw [List.length_range] at this
      omega
    refine q_setL (K := K) (xs := [(L s).getD i 0] ++ (ii (Gr.nb (eds ts) i)).map fun o => (L s).getD o.toNat 0) (el_cat (el_lst (ea_cons (er_ixT (xs := s) (er_var rfl r e03) (er_vint rfl) (at_ofN (sAt (s := L s) (by omega)))) ea_nil)) (el_genA (xs := ii (Gr.nb (eds ts) i)) (f := fun o => (L s).getD o.toNat 0) (in_list (er_ixL (xs := nears n (eds ts)) ((fld_near T (web rfl e03) hw1 e03).er (hw3.mono e03)) (er_vint rfl) (at_ofN (nears_at hi)))) (g_name (i := 6) gr_rep) (fun z σ2 H4 hz e4 s2 => ?_) (by rw [ii_len]; omega)) (by rw [List.length_map, ii_len]; simp; omega)) fun pb H4 hpb e4 ob => ?_
    · obtain ⟨y, rfl, ry⟩ := s2
      obtain rfl := Rep.int ry
      obtain ⟨k, hk, rfl⟩ := mem_ii.mp hz
      have hkn : k < n := by
        rcases Gr.mem_nb.mp hk with y | y <;> have := ed.bd _ y <;> omega
      exact er_ixT (xs := s) (er_var rfl r (e03.trans e4)) (er_vint rfl) (at_ofN (sAt (s := L s) (k := k) (by omega)))
    refine s_rng (K := K) (n := (c : Int)) (cols rfl (e03.trans e4)) (by omega) (by omega) fun H5 e5 => ⟨H4, fun j σ' _ => ∃ o5, σ' = [some (.ref x), some v, some (.ref p), some (.int (i : Nat)), some (.ref pb), o5, none], e5, ⟨_, rfl⟩, ?_, ?_⟩
    · rintro j σ' H6 hj e6 ⟨o5, rfl⟩
      rw [Int.toNat_natCast] at hj
      have hm := hbar i j hi hj
      exact s_ifF (K := K) (et_test (er_notInI (x := (j : Int)) (er_vint rfl) (er_own (i := 4) rfl ob e6))) (by
        rw [decide_eq_true (by simpa using hm)]
        rfl) fun H7 e7 => ⟨e6.trans e7, _, rfl⟩
    · rintro σ' H6 e6 ⟨o5, rfl⟩
      exact ⟨e3.trans (e4.trans e6), _, _, _, rfl⟩
  · rintro σ' H3 e3 ⟨o3, o4, o5, rfl⟩
    refine s_retL (K := K) (xs := ([] : List (Tp Int)).mergeSort fun _ _ => true) (el_sortD (xs := ([] : List (Tp Int))) (er_own (i := 2) rfl o1 e3) (fun x hx => (List.not_mem_nil hx).elim) (fun d hd => (List.not_mem_nil hd).elim) (.inr fun d hd => (List.not_mem_nil hd).elim) (fun x hx => (List.not_mem_nil hx).elim) fun x y hx => (List.not_mem_nil hx).elim) fun pr H4 hpr e4 or => ?_
    rw [List.mergeSort_nil] at or
    exact q pr H4 (fresh_back (e1.trans e3) hpr) (e1.trans (e3.trans e4)) or
theorem tup2 {ta tb : TE} {σ : L2.St} {H : Hp} {Q : VK} (h : ta σ H fun v H1 => tb σ H1 fun w H2 => [v, w].length ≤ sizeLine ∧ ∀ l, H2 l = none → Q (.ref l) (L2.upd H2 l (.tup [v, w]))) : tTup (tCons ta (tCons tb tNil)) σ H Q := h
def spFroz (K : PySem.W.Frag) (C N : Addr) : Sp := fun vs H Q E => ∃ n : Int, vs = [.int n] ∧ (∀ m : Nat, (m : Int) = n → 2 ≤ m → m ≤ 7 → ∀ x t v H', Ex H H' → Wb K C H' x (2 * m) (frT m) → H' t = some (.tup [.ref x, v]) → Rep K H' v (tT (frS m)) → Q (.ref t) H') ∧
  ((n < 2 ∨ 7 < n) → ∀ d H', Ex H H' → H' d = some (.xd [("index", .int (-1))]) → E (.ref N) (some d) H')
theorem ok_frozen_pairs (T : Txt P K mg a) : FnOk P w K mg base (L2N.CX P w) 5 a.f_frozen_pairs a.d_frozen_pairs ["n"] (spFroz K a.C_Web a.C_BadWorld) := by
  refine okXN T.F_frozen_pairs sc_frozen_pairs (fun vs H Q E (h : spFroz K a.C_Web a.C_BadWorld vs H Q E) => by obtain ⟨n, rfl, _⟩ := h; rfl) (fun cdv A outer s H vs Q E hr h => ⟨_, (pss_cons (ps_if (PW.pt (pw_or (pt_cmpR op_lt (pv 0) pe_int (nomark _)) (pw_or1 (pt_cmpR op_gt (pv 0) pe_int (nomark _)))))
  (pss_one (L2N.ps_raise rfl (L2N.takes_of rfl rfl rfl rfl) (pmk_oexN T.S_BadWorldw_initw.T T.i_BadWorldw_initw T.ti_BadWorldw_initw (ok_BadWorldw_initw T) (hr.mono (by decide)) T.b_BadWorldw_initw .nil pass0 (by rfl) T.m_BadWorld (pa_cons (pe_un un_neg pe_int) pa_nil))))
  pss_nil)
  (pss_cons (ps_setLc2 (i := 1) (own := [("low", 2), ("high", 3)]) rfl sc_frozen_pairs.nd rfl rfl (sw_true rfl rfl rfl (by decide +kernel)) (pi_range1 (by rfl) T.z_range (pa_cons (pv 0) pa_nil)) (blkOk_by (own := [("low", 2), ("high", 3)]) (N := N_frozen_pairs) (sc := defScope s_frozen_pairs) (by decide +kernel)) (vs1 := [3]) (by decide) (fun _ _ _ _ _ => (pg_name (i := 2) sc_frozen_pairs.nd rfl (Or.inl rfl))) (fun _ _ _ _ _ => pts_nil) (fun _ _ _ _ _ => (pi_range1 (by rfl) T.z_range (pa_cons (pv 0) pa_nil))) (fun _ _ _ _ _ => (pg_name (i := 3) sc_frozen_pairs.nd rfl (Or.inl rfl))) (fun _ _ _ _ _ => (pts_one (pt_cmpR op_ne (pv 2) (pv 3) (nomark _)))) (fun _ _ _ _ _ => (pe_tup (pa_cons (pv 2) (pa_cons (pe_op op_add (pv 0) (pv 3)) pa_nil)))))
  (pss_one (ps_ret (pe_tup (pa_cons (pe_make T.mk_Web (ok_Webw_initw T) (hr.mono (by decide)) (by rfl) T.m_Web T.b_Webw_initw .nil passNN (pa_cons (pe_op op_mul pe_int (pv 0)) (pa_cons (pv 1) pa_nil))) (pa_cons (pe_callTy (k_call_tuple_of (K := K) rfl) (by rfl) T.z_tuple (by decide +kernel) (pa_cons (pe_lc (own := [("place", 4)]) rfl sc_frozen_pairs.nd (pi_range1 (by rfl) T.z_range (pa_cons (pe_op op_mul pe_int (pv 0)) pa_nil)) (blkOk_by (own := [("place", 4)]) (N := N_frozen_pairs) (sc := defScope s_frozen_pairs) (by decide +kernel)) (fun _ _ _ _ _ => (pg_name (i := 4) sc_frozen_pairs.nd rfl (Or.inl rfl))) (fun _ _ _ _ _ => pts_nil) (fun _ _ _ _ _ => (pe_op op_mod (pv 4) (pv 0)))) pa_nil)) pa_nil))))))), ?_⟩)
  obtain ⟨n, rfl, q, ke⟩ := h
  refine q_if (K := K) (b := decide (n < 2) || decide (7 < n)) (et_orU (et_test (er_lt (er_vint rfl) er_int)) (et_test (er_gt (er_vint rfl) er_int))) (fun hb H1 e1 => ?_) (fun hb H1 e1 => ?_)
  · rw [Bool.or_eq_true, decide_eq_true_eq, decide_eq_true_eq] at hb
    exact mk_X1 (K := K) (v := .int (-1)) (ER.evI (er_neg er_int)) fun d H2 _ e2 hd => ke hb d H2 (e1.trans e2) hd
  rw [Bool.or_eq_false_iff, decide_eq_false_iff_not, decide_eq_false_iff_not] at hb
  obtain ⟨m, rfl⟩ : ∃ m : Nat, n = m := ⟨n.toNat, by omega⟩
  have F := fr_ok (n := m) (by omega) (by omega)
  have hfl := F.len
  refine q_setL (K := K) (xs := frT m) (EL.is (el_gen2F (Y1 := fun (k : Nat) v _ => v = V.int (k : Nat)) (xs := List.range (m : Int).toNat) (ys := fun _ => List.range (m : Int).toNat) (p := fun (x y : Nat) => !decide ((x : Int) = (y : Int))) (f := fun (x y : Nat) => tp2 (x : Int) ((m : Int) + (y : Int))) (in_rng (K := K) (er_vint rfl) (by omega) (by omega)) ?_ ?_ (fun x v H2 hx e2 hv => ?_) (fun x v y u H2 hx hy e2 hv hu => ?_) (fun x v y u H2 hx hy hp e2 hv hu => ?_) (by decide) ?_) (by rw [Int.toNat_natCast]; rfl)) fun p H2 hp e2 o2 => ?_
  · exact fun _ _ _ _ _ h => h
  · exact fun _ _ _ _ _ h => h
  · exact in_rngT (K := K) (er_vint rfl) (by omega) (by omega)
  · subst hv hu
    exact et_test (er_neI (er_vint rfl) (er_vint rfl))
  · subst hv hu
    exact er_tup (α := Int) (xs := [_, _]) (ea_cons (er_vint rfl) (ea_cons (er_add (er_vint rfl) (er_vint rfl)) ea_nil))
  · have : (frT m).length ≤ 100000 := by omega
    rw [Int.toNat_natCast]
    exact this
  have hw2 := F.web
  refine s_retW (tup2 ?_)
  refine w_make (K := K) (as_v (er_mul (i := 2) er_int (er_vint rfl) (by walk_at "side")).evI (as_r (er_own (i := 1) rfl o2 (Ex.refl _)) as_nil)) ?_
  rintro vs H3 e3 ⟨_, rfl, v, _, rfl, rv, rfl⟩
  refine mk_web (ts := frT m) rv F.two (by omega) (fun m' x H4 hm' _ hx e4 W _ => ?_) fun k hk => by
    have := F.ok
    rw [show ((2 * m : Nat) : Int) = 2 * (m : Int) by omega] at this
    rw [this] at hk
    cases hk
  obtain rfl : m' = 2 * m := by omega
  rw [hw2] at W
  refine (er_tuple (K := K) (xs := frS m) (EL.er (EL.is (el_rmap (n := 2 * (m : Int)) (f := fun (k : Nat) => (k : Int) % (m : Int)) (er_mul (i := 2) er_int (er_vint rfl) (by walk_at "side")) (by omega) (by omega) fun k H5 hk e5 => er_mod (er_vint rfl) (er_vint rfl) (by omega)) (by unfold frS; congr 2)))) H4 (Ex.refl _) _ fun u H5 e5 ru => ⟨Evl.sz_of (by show 2 ≤ 100000; decide), fun t ht => ?_⟩
  have e6 := Evl.Ex.new (o := .tup [V.ref x, u]) ht
  exact q m rfl (by omega) (by omega) x t u _ (e1.trans (e2.trans (e3.trans (e4.trans (e5.trans e6))))) (W.mono (e5.trans e6)) upd_same (ru.mono e6)
end
set_option Elab.async false
set_option linter.all false
set_option maxRecDepth 100000
set_option maxHeartbeats 1600000
set_option autoImplicit false
open PySem L2 Z
open Evl (Ex)
section
variable {P : Program} {w : World} {K : PySem.W.Frag} {mg : Str → Option Value} {base : Heap} {a : Ad}
/-- why lead_many refuses: the word and what is due -/
inductive RefC (K : PySem.W.Frag) (H : Hp) (n : Nat) (ts : List (Tp Int)) (c : Int) (s g : Tp Int) : Str → V → Prop
  | world : colBad n c = true → RefC K H n ts c s g "world" (.int (-1))
  | few : colBad n c = false → c < (Gr.mostD n (eds ts) : Nat) + 2 → RefC K H n ts c s g "few" (.int ((Gr.mostD n (eds ts) : Nat) + 2))
  | st (due : V) : colBad n c = false → (Gr.mostD n (eds ts) : Nat) + 2 ≤ c → colB n ts c (L s) = false → Rep K H due s → RefC K H n ts c s g "setting" due
  | go (due : V) : colBad n c = false → (Gr.mostD n (eds ts) : Nat) + 2 ≤ c → colB n ts c (L s) = true → colB n ts c (L g) = false → Rep K H due g → RefC K H n ts c s g "setting" due
theorem RefC.mono {G H : Hp} {n : Nat} {ts : List (Tp Int)} {c : Int} {s g : Tp Int} {wd : Str} {due : V} (e : Ex G H) (h : RefC K G n ts c s g wd due) : RefC K H n ts c s g wd due := by
  cases h with
  | world h => exact .world h
  | few h h' => exact .few h h'
  | st _ h1 h2 h3 r => exact .st _ h1 h2 h3 (r.mono e)
  | go _ h1 h2 h3 h4 r => exact .go _ h1 h2 h3 h4 (r.mono e)
def spRefd (K : PySem.W.Frag) (C : Addr) : Sp := fun vs H Q _ => ∃ (w : Addr) (n : Nat) (ts : List (Tp Int)) (c : Int) (v u : V) (s g : Tp Int) (wd : Str) (due : V), vs = [.ref w, .int c, v, u, .str wd, due] ∧ Wb K C H w n ts ∧ Rep K H v s ∧ Rep K H u g ∧ (L s).length ≤ 1000 ∧ (L g).length ≤ 1000 ∧ RefC K H n ts c s g wd due ∧ ∀ H', Ex H H' → Q (.bl true) H'
theorem ok_law_refused (T : Txt P K mg a) : FnOk P w K mg base CX0 6 a.f_law_refused a.d_law_refused ["web", "colours", "start", "goal", "word", "due"] (spRefd K a.C_Web) := by
  refine T.F_law_refused.ok sc_law_refused (fun vs H Q E (h : spRefd K a.C_Web vs H Q E) => by obtain ⟨w, n, ts, c, v, u, s, g, wd, due, rfl, _⟩ := h; rfl) (fun cdv A outer s0 H vs Q E hr h => ⟨_, (pss_cons (ps_try_asManyN (Wout := fun _ _ _ _ => False) rfl rfl sc_law_refused.nd takes0N
  (fun W pn xe tk po => (pss_one (ps_expr (pe_callS (ok_lead_many T) (hr.mono (by decide)) (by rfl) T.m_lead_many T.F_lead_many.kp T.b_lead_many (fun σ => passAtN tk σ) (pa_cons (pv 0) (pa_cons (pv 1) (pa_cons (pv 2) (pa_cons (pv 3) pa_nil))))))))
  (.cons (i := 6) rfl rfl ⟨rfl, by decide, Or.inl T.m_BadWorld⟩ (fun ae oe cls d pn hz hf => (pss_cons (ps_if (PW.pt (pw_or (pt_val (pe_callB (call_isX (L2N.Zn.zc hz) hf) (by rfl) T.z_isinstance (by decide +kernel) (pa_cons (pv 6) (pa_cons (pe_glob (v := .ref a.C_TooFew) (by rfl) T.m_TooFew rfl) pa_nil)))) (pw_or (pt_val (pe_callB (call_isX (L2N.Zn.zc hz) hf) (by rfl) T.z_isinstance (by decide +kernel) (pa_cons (pv 6) (pa_cons (pe_glob (v := .ref a.C_NotAnAnswer) (by rfl) T.m_NotAnAnswer rfl) pa_nil)))) (pw_or1 (pt_not (pt_val (pe_callB (call_isX (L2N.Zn.zc hz) hf) (by rfl) T.z_isinstance (by decide +kernel) (pa_cons (pv 6) (pa_cons (pe_glob (v := .ref a.C_StepError) (by rfl) T.m_StepError rfl) pa_nil)))))))))
  (pss_one (ps_ret pe_bl))
  pss_nil)
  (pss_one (ps_ret (pe_and (pe_cmpR op_eq (pv 4) pe_str (nomark _)) (pe_and (pe_callB (call_isX (L2N.Zn.zc hz) hf) (by rfl) T.z_isinstance (by decide +kernel) (pa_cons (pv 6) (pa_cons (pe_bltn (v := .ty "ValueError") (by rfl) T.z_ValueError (by decide +kernel) rfl) pa_nil))) (pe_one (pe_callW (okW_law_int T) (roomW (j := 1) hr (by decide)) (by rfl) T.m__law_int T.F_law_int.kp T.b_law_int pass0 (pa_cons (pe_xf T.xf_BadWorld T.nf_BadWorld_index (L2N.Zn.zc hz) hf (pv 6)) (pa_cons (pv 5) pa_nil)))))))))) (.cons (i := 6) rfl rfl ⟨rfl, by decide, Or.inl T.m_TooFew⟩ (fun ae oe cls d pn hz hf => (pss_cons (ps_if (PW.pt (pw_or (pt_val (pe_callB (call_isX (L2N.Zn.zc hz) hf) (by rfl) T.z_isinstance (by decide +kernel) (pa_cons (pv 6) (pa_cons (pe_glob (v := .ref a.C_NotAnAnswer) (by rfl) T.m_NotAnAnswer rfl) pa_nil)))) (pw_or1 (pt_not (pt_val (pe_callB (call_isX (L2N.Zn.zc hz) hf) (by rfl) T.z_isinstance (by decide +kernel) (pa_cons (pv 6) (pa_cons (pe_glob (v := .ref a.C_StepError) (by rfl) T.m_StepError rfl) pa_nil))))))))
  (pss_one (ps_ret pe_bl))
  pss_nil)
  (pss_one (ps_ret (pe_and (pe_cmpR op_eq (pv 4) pe_str (nomark _)) (pe_and (pe_callB (call_isX (L2N.Zn.zc hz) hf) (by rfl) T.z_isinstance (by decide +kernel) (pa_cons (pv 6) (pa_cons (pe_bltn (v := .ty "ValueError") (by rfl) T.z_ValueError (by decide +kernel) rfl) pa_nil))) (pe_one (pe_callW (okW_law_int T) (roomW (j := 1) hr (by decide)) (by rfl) T.m__law_int T.F_law_int.kp T.b_law_int pass0 (pa_cons (pe_xf T.xf_TooFew T.nf_TooFew_needed (L2N.Zn.zc hz) hf (pv 6)) (pa_cons (pv 5) pa_nil)))))))))) (.cons (i := 6) rfl rfl ⟨rfl, by decide, Or.inl T.m_NotAnAnswer⟩ (fun ae oe cls d pn hz hf => (pss_cons (ps_if (PW.pt (pw_or (pt_not (pt_val (pe_callB (call_isX (L2N.Zn.zc hz) hf) (by rfl) T.z_isinstance (by decide +kernel) (pa_cons (pv 6) (pa_cons (pe_glob (v := .ref a.C_StepError) (by rfl) T.m_StepError rfl) pa_nil))))) (pw_or1 (pt_not (pt_val (pe_callB (call_isX (L2N.Zn.zc hz) hf) (by rfl) T.z_isinstance (by decide +kernel) (pa_cons (pv 6) (pa_cons (pe_bltn (v := .ty "ValueError") (by rfl) T.z_ValueError (by decide +kernel) rfl) pa_nil))))))))
  (pss_one (ps_ret pe_bl))
  pss_nil)
  (pss_one (ps_ret (pe_and (pe_cmpR op_eq (pv 4) pe_str (nomark _)) (pe_one (pe_callHot (okH_law_tuple T) (roomH (j := 2) hr (by decide)) (hot_suite hz hf) (by rfl) T.m__law_tuple T.F_law_tuple.kp T.b_law_tuple pass0At (pa_cons (pe_xf T.xf_NotAnAnswer T.nf_NotAnAnswer_setting (L2N.Zn.zc hz) hf (pv 6)) (pa_cons (pv 5) pa_nil))))))))) .nil))))
  (pss_one (ps_ret pe_bl))), ?_⟩)
  obtain ⟨w, n, ts, c, v, u, s, g, wd, due, rfl, W, rs, rg, hsl, hgl, rc, q⟩ := h
  refine s_seq ?_
  refine s_drop ?_
  refine ⟨_, rfl, _, rfl, _, rfl, _, rfl, w, n, ts, c, v, u, s, g, rfl, W, rs, rg, hsl, hgl, ⟨fun hb d H2 e2 hd => ?_, fun hb hc d H2 e2 hd => ?_, fun hb hc hs z d H2 e2 rz hd => ?_, fun hb hc hs hg z d H2 e2 rz hd => ?_⟩, fun hb hc hs hg => ?_⟩
  · obtain ⟨rfl, rfl⟩ : wd = "world" ∧ due = .int (-1) := by
      cases rc with
      | world h => exact ⟨rfl, rfl⟩
      | few h _ => rw [hb] at h; cases h
      | st _ h => rw [hb] at h; cases h
      | go _ h => rw [hb] at h; cases h
    refine ⟨true, T.exm_BadWorld_BadWorld, fun _ ae hae => ?_, fun z => absurd z.symm Bool.false_ne_true⟩
    refine q_ifF (K := K) (et_orU (et_B (er_isX (ev_var rfl) hd (Ex.refl _) T.xc_BadWorld (fun u r => r) T.kit_BadWorld_TooFew)) (et_orU (et_B (er_isX (ev_var rfl) hd (Ex.refl _) T.xc_BadWorld (fun u r => r) T.kit_BadWorld_NotAnAnswer)) (et_not (et_B (er_isX (ev_var rfl) hd (Ex.refl _) T.xc_BadWorld (fun u r => r) T.kit_BadWorld_StepError))))) rfl fun H3 e3 => ?_
    refine s_ret (K := K) (x := true) (ER.is (er_andU (er_eqS (er_vstr rfl) er_str) (er_andU (er_isX (ev_var rfl) hd e3 T.xc_BadWorld (fun u r => r) T.kit_BadWorld_ValueError) (er_lint (er_xf (f := "index") (ev_var rfl) hd e3 rfl (rep_int (-1))) (er_vint rfl)))) (by decide)) fun v H4 e4 r4 => ?_
    rw [Rep.bool r4]
    exact q H4 (e2.trans (e3.trans e4))
  · obtain ⟨rfl, rfl⟩ : wd = "few" ∧ due = .int ((Gr.mostD n (eds ts) : Nat) + 2) := by
      cases rc with
      | world h => rw [hb] at h; cases h
      | few h _ => exact ⟨rfl, rfl⟩
      | st _ _ h => omega
      | go _ _ h => omega
    refine ⟨false, T.exm_TooFew_BadWorld, fun z => absurd z Bool.false_ne_true, fun _ => ⟨true, T.exm_TooFew_TooFew, fun _ ae hae => ?_, fun z => absurd z.symm Bool.false_ne_true⟩⟩
    refine q_ifF (K := K) (et_orU (et_B (er_isX (ev_var rfl) hd (Ex.refl _) T.xc_TooFew (fun u r => r) T.kit_TooFew_NotAnAnswer)) (et_not (et_B (er_isX (ev_var rfl) hd (Ex.refl _) T.xc_TooFew (fun u r => r) T.kit_TooFew_StepError)))) rfl fun H3 e3 => ?_
    refine s_ret (K := K) (x := true) (ER.is (er_andU (er_eqS (er_vstr rfl) er_str) (er_andU (er_isX (ev_var rfl) hd e3 T.xc_TooFew (fun u r => r) T.kit_TooFew_ValueError) (er_lint (er_xf (f := "needed") (ev_var rfl) hd e3 rfl (rep_int _)) (er_vint rfl)))) (by simp)) fun v H4 e4 r4 => ?_
    rw [Rep.bool r4]
    exact q H4 (e2.trans (e3.trans e4))
  · obtain ⟨rfl, rd⟩ : wd = "setting" ∧ Rep K H due s := by
      cases rc with
      | world h => rw [hb] at h; cases h
      | few _ h => omega
      | st _ _ _ _ r => exact ⟨rfl, r⟩
      | go _ _ _ h => rw [hs] at h; cases h
    refine ⟨false, T.exm_NotAnAnswer_BadWorld, fun z => absurd z Bool.false_ne_true, fun _ => ⟨false, T.exm_NotAnAnswer_TooFew, fun z => absurd z Bool.false_ne_true, fun _ => ⟨true, T.exm_NotAnAnswer_NotAnAnswer, fun _ ae hae => ?_, fun z => absurd z.symm Bool.false_ne_true⟩⟩⟩
    refine q_ifF (K := K) (et_orU (et_not (et_B (er_isX (ev_var rfl) hd (Ex.refl _) T.xc_NotAnAnswer (fun u r => r) T.kit_NotAnAnswer_StepError))) (et_not (et_B (er_isX (ev_var rfl) hd (Ex.refl _) T.xc_NotAnAnswer (fun u r => r) T.kit_NotAnAnswer_ValueError)))) rfl fun H3 e3 => ?_
    refine s_ret (K := K) (x := true) (ER.is (er_andU (er_eqS (er_vstr rfl) er_str) (er_ltup (x := s) (er_xf (f := "setting") (ev_var rfl) hd e3 rfl rz) (er_var rfl rd (e2.trans e3)) hsl)) (by decide)) fun v H4 e4 r4 => ?_
    rw [Rep.bool r4]
    exact q H4 (e2.trans (e3.trans e4))
  · obtain ⟨rfl, rd⟩ : wd = "setting" ∧ Rep K H due g := by
      cases rc with
      | world h => rw [hb] at h; cases h
      | few _ h => omega
      | st _ _ _ h => rw [hs] at h; cases h
      | go _ _ _ _ _ r => exact ⟨rfl, r⟩
    refine ⟨false, T.exm_NotAnAnswer_BadWorld, fun z => absurd z Bool.false_ne_true, fun _ => ⟨false, T.exm_NotAnAnswer_TooFew, fun z => absurd z Bool.false_ne_true, fun _ => ⟨true, T.exm_NotAnAnswer_NotAnAnswer, fun _ ae hae => ?_, fun z => absurd z.symm Bool.false_ne_true⟩⟩⟩
    refine q_ifF (K := K) (et_orU (et_not (et_B (er_isX (ev_var rfl) hd (Ex.refl _) T.xc_NotAnAnswer (fun u r => r) T.kit_NotAnAnswer_StepError))) (et_not (et_B (er_isX (ev_var rfl) hd (Ex.refl _) T.xc_NotAnAnswer (fun u r => r) T.kit_NotAnAnswer_ValueError)))) rfl fun H3 e3 => ?_
    refine s_ret (K := K) (x := true) (ER.is (er_andU (er_eqS (er_vstr rfl) er_str) (er_ltup (x := g) (er_xf (f := "setting") (ev_var rfl) hd e3 rfl rz) (er_var rfl rd (e2.trans e3)) hgl)) (by decide)) fun v H4 e4 r4 => ?_
    rw [Rep.bool r4]
    exact q H4 (e2.trans (e3.trans e4))
  · exfalso
    cases rc with
    | world h => rw [hb] at h; cases h
    | few _ h => omega
    | st _ _ _ h => rw [hs] at h; cases h
    | go _ _ _ _ h => rw [hg] at h; cases h
theorem er_refd {C : Addr} {E : XK} {G H : Hp} {t1 t2 t3 t4 t5 t6 : TE} {σ : L2.St} {w : Addr} {n : Nat} {ts : List (Tp Int)} {c : Int} {s g : Tp Int} {wd : Str} {due : V} (h1 : EV K t1 σ H (.ref w)) (W : Wb K C G w n ts) (e : Ex G H) (h2 : ER K t2 σ H c) (h3 : ER K t3 σ H s) (h4 : ER K t4 σ H g) (h5 : ER K t5 σ H wd) (h6 : EV K t6 σ H due)
    (hsl : (L s).length ≤ 1000) (hgl : (L g).length ≤ 1000) (rc : RefC K H n ts c s g wd due) : ER K (tCall (spRefd K C) [] E (tCons t1 (tCons t2 (tCons t3 (tCons t4 (tCons t5 (tCons t6 tNil))))))) σ H true := by
  refine er_call (as_v h1 (as_v h2.evI (as_r h3 (as_r h4 (as_v h5.evS (as_v h6 as_nil)))))) ?_
  rintro vs H' Q e' ⟨_, rfl, _, rfl, v, _, rfl, rv, u, _, rfl, ru, _, rfl, _, rfl, rfl⟩ q
  exact ⟨w, n, ts, c, v, u, s, g, wd, due, rfl, W.mono (e.trans e'), rv, ru, hsl, hgl, rc.mono e', fun H2 e2 => q _ H2 e2 (rep_bool _)⟩
def spPRef (K : PySem.W.Frag) : Sp := fun vs H Q _ => ∃ n : Int, vs = [.int n] ∧ (n < 2 ∨ 7 < n) ∧ ∀ H', Ex H H' → Q (.bl true) H'
theorem ok_law_pairs_refused (T : Txt P K mg a) : FnOk P w K mg base CX0 6 a.f_law_pairs_refused a.d_law_pairs_refused ["n"] (spPRef K) := by
  refine T.F_law_pairs_refused.ok sc_law_pairs_refused (fun vs H Q E (h : spPRef K vs H Q E) => by obtain ⟨n, rfl, _⟩ := h; rfl) (fun cdv A outer s0 H vs Q E hr h => ⟨_, (pss_cons (L2N.ps_try_as (i := 1) (Wout := fun _ _ _ _ => False) rfl rfl sc_law_pairs_refused.nd rfl rfl ⟨rfl, by decide, Or.inl T.m_BadWorld⟩ takes0N
  (fun W pn xe tk po => (pss_one (ps_expr (pe_callS (ok_frozen_pairs T) (hr.mono (by decide)) (by rfl) T.m_frozen_pairs T.F_frozen_pairs.kp T.b_frozen_pairs (fun σ => passAtN tk σ) (pa_cons (pv 0) pa_nil)))))
  (fun ae oe cls d pn hz hf => (pss_one (ps_ret (pe_and (pe_callB (call_isX (L2N.Zn.zc hz) hf) (by rfl) T.z_isinstance (by decide +kernel) (pa_cons (pv 1) (pa_cons (pe_glob (v := .ref a.C_StepError) (by rfl) T.m_StepError rfl) pa_nil))) (pe_and (pe_callB (call_isX (L2N.Zn.zc hz) hf) (by rfl) T.z_isinstance (by decide +kernel) (pa_cons (pv 1) (pa_cons (pe_bltn (v := .ty "ValueError") (by rfl) T.z_ValueError (by decide +kernel) rfl) pa_nil))) (pe_one (pe_callW (okW_law_int T) (roomW (j := 1) hr (by decide)) (by rfl) T.m__law_int T.F_law_int.kp T.b_law_int pass0 (pa_cons (pe_xf T.xf_BadWorld T.nf_BadWorld_index (L2N.Zn.zc hz) hf (pv 1)) (pa_cons (pe_un un_neg pe_int) pa_nil))))))))))
  (pss_one (ps_ret pe_bl))), ?_⟩)
  obtain ⟨n, rfl, hn, q⟩ := h
  refine s_seq ?_
  refine s_drop ?_
  refine ⟨_, rfl, n, rfl, fun m hm h0 h1 => ?_, fun _ d H2 e2 hd => ?_⟩
  · exfalso
    omega
  · refine ⟨true, T.exm_BadWorld_BadWorld, fun _ ae hae => ?_, fun z => absurd z.symm Bool.false_ne_true⟩
    refine s_ret (K := K) (x := true) (ER.is (er_andU (er_isX (ev_var rfl) hd (Ex.refl _) T.xc_BadWorld (fun u r => r) T.kit_BadWorld_StepError) (er_andU (er_isX (ev_var rfl) hd (Ex.refl _) T.xc_BadWorld (fun u r => r) T.kit_BadWorld_ValueError) (er_lint (er_xf (f := "index") (ev_var rfl) hd (Ex.refl _) rfl (rep_int (-1))) (er_neg er_int)))) (by decide)) fun v H4 e4 r4 => ?_
    rw [Rep.bool r4]
    exact q H4 (e2.trans e4)
theorem er_pref {E : XK} {H : Hp} {t1 : TE} {σ : L2.St} {n : Int} (h1 : ER K t1 σ H n) (hn : n < 2 ∨ 7 < n) : ER K (tCall (spPRef K) [] E (tCons t1 tNil)) σ H true := by
  refine er_call (as_v h1.evI as_nil) ?_
  rintro vs H' Q e' ⟨_, rfl, rfl⟩ q
  exact ⟨n, rfl, hn, fun H2 e2 => q _ H2 e2 (rep_bool _)⟩
end
set_option Elab.async false
set_option linter.all false
set_option maxRecDepth 100000
set_option maxHeartbeats 2000000
set_option autoImplicit false
open PySem L2 Z
open Evl (Ex)
theorem frT_len {n : Nat} : ∀ i : Nat, i ≤ n → (((List.range i).flatMap fun (x : Nat) => ((List.range n).filter fun (y : Nat) => !decide ((x : Int) = (y : Int))).map fun (y : Nat) => tp2 (x : Int) ((n : Int) + (y : Int)))).length ≤ n * i
  | 0, _ => Nat.le_refl _
  | i + 1, h => by
    have := frT_len (n := n) i (by omega)
    rw [List.range_succ, List.flatMap_append, List.length_append]
    simp only [List.flatMap_cons, List.flatMap_nil, List.append_nil, List.length_map]
    have l2 := List.length_filter_le (fun (y : Nat) => !decide ((i : Int) = (y : Int))) (List.range n)
    rw [List.length_range] at l2
    rw [Nat.mul_succ]
    omega
section
variable {P : Program} {w : World} {K : PySem.W.Frag} {mg : Str → Option Value} {base : Heap} {a : Ad}
theorem er_isi_tupV {G H : Hp} {σ : L2.St} {te : TE} {t : Addr} {vs : List V} (h : EV K te σ H (.ref t)) (ht : G t = some (.tup vs)) (e : Ex G H) : ER K (tCB (rIsi K) (tCons te (tCons (tC (.ty "tuple")) tNil))) σ H true := fun H1 e1 Q q =>
  h H1 e1 _ fun H2 e2 => ⟨.ref t, .ty "tuple", .type "tuple", .type "tuple", true, rfl, .ty "tuple", .base (.tup ((e.trans (e1.trans e2)) _ _ ht)), kitOf (by decide +kernel), q _ H2 e2 (rep_bool _)⟩
theorem er_lenV {G H : Hp} {σ : L2.St} {te : TE} {t : Addr} {vs : List V} {k : Int} (h : EV K te σ H (.ref t)) (ht : G t = some (.tup vs)) (e : Ex G H) (hk : k = (vs.length : Int)) : ER K (tCB (fun xs H Q => ∃ p ys, xs = [.ref p] ∧ (SqL K H p ys ∨ SqT K H p ys) ∧ Q (.int ys.length) H) (tCons te tNil)) σ H k := fun H1 e1 Q q =>
  h H1 e1 _ fun H2 e2 => ⟨t, vs, rfl, .inr (SqT.of ((e.trans (e1.trans e2)) _ _ ht)), q _ H2 e2 (by rw [hk]; exact rep_int _)⟩
/-- what lead_many gives -/
def LedV (K : PySem.W.Frag) (C : Addr) (n : Nat) (ts : List (Tp Int)) (c : Int) (s g : Tp Int) : V → Hp → Prop := fun v H => ∃ r l ss, v = .ref r ∧ RowAt K C H r l (rT ss) ∧ Gr.Led (eds ts) n c (L s) (L g) n ss
theorem LedV.mono {C : Addr} {n : Nat} {ts : List (Tp Int)} {c : Int} {s g : Tp Int} : ∀ v G H, Ex G H → LedV K C n ts c s g v G → LedV K C n ts c s g v H := fun v G H e ⟨r, l, ss, h, R, Ld⟩ => ⟨r, l, ss, h, R.mono e, Ld⟩
theorem ew_lead {E : XK} {G H : Hp} {t1 t2 t3 t4 : TE} {σ : L2.St} {w : Addr} {n : Nat} {ts : List (Tp Int)} {c : Int} {s g : Tp Int} (h1 : EV K t1 σ H (.ref w)) (W : Wb K a.C_Web G w n ts) (e : Ex G H) (h2 : ER K t2 σ H c) (h3 : ER K t3 σ H s) (h4 : ER K t4 σ H g)
    (hb : colBad n c = false) (hc : (Gr.mostD n (eds ts) : Nat) + 2 ≤ c) (hs : colB n ts c (L s) = true) (hg : colB n ts c (L g) = true) : ∀ H1, Ex H H1 → ∀ Q : VK, (∀ v H2, Ex H1 H2 → LedV K a.C_Row n ts c s g v H2 → Q v H2) → tCall (spLead K a) [] E (tCons t1 (tCons t2 (tCons t3 (tCons t4 tNil)))) σ H1 Q := fun H1 e1 Q q => by
  have hn := W.hn
  have ls := (colB_prp.mp hs).len
  have lg := (colB_prp.mp hg).len
  refine (as_v (K := K) h1 (as_v h2.evI (as_r h3 (as_r h4 as_nil)))) H1 e1 _ ?_
  rintro vs H2 e2 ⟨_, rfl, _, rfl, v, _, rfl, rv, u, _, rfl, ru, rfl⟩
  refine ⟨w, n, ts, c, v, u, s, g, rfl, W.mono (e.trans (e1.trans e2)), rv, ru, by omega, by omega, ⟨fun z => ?_, fun _ z => ?_, fun _ _ z => ?_, fun _ _ _ z => ?_⟩, fun _ _ _ _ r l H3 ss hr e3 R Ld => q _ H3 (e2.trans e3) ⟨r, l, ss, rfl, R, Ld⟩⟩
  · rw [hb] at z; cases z
  · omega
  · rw [hs] at z; cases z
  · rw [hg] at z; cases z
/-- _law_row_stands(lead_many(..), ..) -/
theorem er_rs {E E2 : XK} {G H : Hp} {t1 t2 t3 t4 u3 u4 u5 u6 : TE} {σ : L2.St} {w : Addr} {n : Nat} {ts tl : List (Tp Int)} {c : Int} {s g : Tp Int} (h1 : EV K t1 σ H (.ref w)) (W : Wb K a.C_Web G w n ts) (e : Ex G H) (h2 : ER K t2 σ H c) (h3 : ER K t3 σ H s) (h4 : ER K t4 σ H g)
    (hb : colBad n c = false) (hc : (Gr.mostD n (eds ts) : Nat) + 2 ≤ c) (hs : colB n ts c (L s) = true) (hg : colB n ts c (L g) = true) (k3 : ER K u3 σ H s) (k4 : ER K u4 σ H g) (k5 : ER K u5 σ H tl) (k6 : ER K u6 σ H c) (pm : (eds ts).Perm (eds tl)) (ok : TOk n tl) (hl : tl.length ≤ 100) :
    ER K (tCall (spRS K a.C_Row) [] E (tCons (tCall (spLead K a) [] E2 (tCons t1 (tCons t2 (tCons t3 (tCons t4 tNil))))) (tCons u3 (tCons u4 (tCons u5 (tCons u6 tNil)))))) σ H true := by
  have hn := W.hn
  refine er_call (as_p LedV.mono (ew_lead h1 W e h2 h3 h4 hb hc hs hg) (as_r k3 (as_r k4 (as_r k5 (as_v k6.evI as_nil))))) ?_
  rintro vs H' Q e' ⟨_, _, rfl, ⟨r, l, ss, rfl, R, Ld⟩, v, _, rfl, rv, u, _, rfl, ru, z, _, rfl, rz, _, rfl, rfl⟩ q
  exact ⟨r, l, v, u, z, s, g, n, tl, c, ss, rfl, R, rv, ru, rz, by omega, hl, ok, Ld.perm pm, (colB_prp.mp hg).perm pm, fun H2 e2 => q _ H2 e2 (rep_bool _)⟩
def spPS (K : PySem.W.Frag) : Sp := fun vs H Q _ => ∃ n : Nat, vs = [.int n] ∧ 2 ≤ n ∧ n ≤ 7 ∧ ∀ H', Ex H H' → Q (.bl true) H'
theorem ok_law_pairs_stand (T : Txt P K mg a) : FnOk P w K mg base CX0 7 a.f_law_pairs_stand a.d_law_pairs_stand ["n"] (spPS K) := by
  refine T.F_law_pairs_stand.ok sc_law_pairs_stand (fun vs H Q E (h : spPS K vs H Q E) => by obtain ⟨n, rfl, _⟩ := h; rfl) (fun cdv A outer s0 H vs Q E hr h => ⟨_, (pss_cons (ps_set (i := 1) sc_law_pairs_stand.nd rfl (Or.inl rfl) (pe_call (ok_frozen_pairs T) (hr.mono (by decide)) (by rfl) T.m_frozen_pairs T.F_frozen_pairs.kp T.b_frozen_pairs .nil passNN (pa_cons (pv 0) pa_nil)))
  (pss_cons (ps_if (PW.pt (pw_or (pt_not (pt_val (pe_callB (k_call_isi (K := K) rfl) (by rfl) T.z_isinstance (by decide +kernel) (pa_cons (pv 1) (pa_cons (pe_bltn (v := .ty "tuple") (by rfl) T.z_tuple (by decide +kernel) rfl) pa_nil))))) (pw_or (pt_cmpR op_ne (pe_callB (k_call_len_seq (K := K) rfl) (by rfl) T.z_len (by decide +kernel) (pa_cons (pv 1) pa_nil)) pe_int (nomark _)) (pw_or1 (pt_not (pt_val (pe_callB (k_call_isi (K := K) rfl) (by rfl) T.z_isinstance (by decide +kernel) (pa_cons (pe_ix (k_ix_tup (K := K) rfl) (pv 1) pe_int (fun _ _ => rfl)) (pa_cons (pe_glob (v := .ref a.C_Web) (by rfl) T.m_Web rfl) pa_nil)))))))))
  (pss_one (ps_ret pe_bl))
  pss_nil)
  (pss_cons (ps_set (i := 2) sc_law_pairs_stand.nd rfl (Or.inr rfl) (pe_ix (k_ix_tup (K := K) rfl) (pv 1) pe_int (fun _ _ => rfl)))
  (pss_cons (ps_set (i := 3) sc_law_pairs_stand.nd rfl (Or.inl rfl) (pe_ix (k_ix_tup (K := K) rfl) (pv 1) pe_int (fun _ _ => rfl)))
  (pss_cons (ps_set (i := 4) sc_law_pairs_stand.nd rfl (Or.inr rfl) (pe_lst pa_nil))
  (pss_cons (ps_for PassesOwn.never rfl (pi_range1 (by rfl) T.z_range (pa_cons (pv 0) pa_nil)) (pg_name (i := 5) sc_law_pairs_stand.nd rfl (Or.inl rfl))
  (pss_one (ps_for PassesOwn.never rfl (pi_range1 (by rfl) T.z_range (pa_cons (pv 0) pa_nil)) (pg_name (i := 6) sc_law_pairs_stand.nd rfl (Or.inl rfl))
  (pss_one (ps_if (pt_cmpR op_ne (pv 5) (pv 6) (nomark _))
  (pss_one (ps_expr (k_pe_bm (K := K) rfl (pe_bm PySem.F.plainAttrs_list PySem.F.slot_list_append PySem.F.type_list_append mt_append (pv 4) (pa_cons (pe_tup (pa_cons (pv 5) (pa_cons (pe_op op_add (pv 0) (pv 6)) pa_nil))) pa_nil)))))
  pss_nil)))))
  (pss_cons (ps_if (PW.pt (pw_or (pt_not (pt_val (pe_call (ok_law_int T) (hr.mono (by decide)) (by rfl) T.m__law_int T.F_law_int.kp T.b_law_int .nil pass0 (pa_cons (k_pe_fld (K := K) rfl (pe_fld (pv 2) (by rfl))) (pa_cons (pe_op op_mul pe_int (pv 0)) pa_nil))))) (pw_or (pt_not (pt_val (pe_callB (k_call_isi (K := K) rfl) (by rfl) T.z_isinstance (by decide +kernel) (pa_cons (k_pe_fld (K := K) rfl (pe_fld (pv 2) (by rfl))) (pa_cons (pe_bltn (v := .ty "list") (by rfl) T.z_list (by decide +kernel) rfl) pa_nil))))) (pw_or1 (pt_cmpR op_ne (pe_callB (k_call_len_seq (K := K) rfl) (by rfl) T.z_len (by decide +kernel) (pa_cons (k_pe_fld (K := K) rfl (pe_fld (pv 2) (by rfl))) pa_nil)) (pe_callB (k_call_len_seq (K := K) rfl) (by rfl) T.z_len (by decide +kernel) (pa_cons (pv 4) pa_nil)) (nomark _))))))
  (pss_one (ps_ret pe_bl))
  pss_nil)
  (pss_cons (ps_if (pt_not (pt_val (pe_callB (k_cr_all (K := K) rfl rfl) (by rfl) T.z_all (by decide +kernel) (pa_cons (pe_lc (own := [("k", 5)]) rfl sc_law_pairs_stand.nd (pi_range1 (by rfl) T.z_range (pa_cons (pe_callB (k_call_len_seq (K := K) rfl) (by rfl) T.z_len (by decide +kernel) (pa_cons (pv 4) pa_nil)) pa_nil)) (blkOk_by (own := [("k", 5)]) (N := N_law_pairs_stand) (sc := defScope s_law_pairs_stand) (by decide +kernel)) (fun _ _ _ _ _ => (pg_name (i := 5) sc_law_pairs_stand.nd rfl (Or.inl rfl))) (fun _ _ _ _ _ => pts_nil) (fun _ _ _ _ _ => (pe_call (ok_law_tuple T) (hr.mono (by decide)) (by rfl) T.m__law_tuple T.F_law_tuple.kp T.b_law_tuple .nil pass0 (pa_cons (pe_ix (k_ix_list (K := K) rfl) (k_pe_fld (K := K) rfl (pe_fld (pv 2) (by rfl))) (pv 5) (fun _ _ => rfl)) (pa_cons (pe_ix (k_ix_list (K := K) rfl) (pv 4) (pv 5) (fun _ _ => rfl)) pa_nil))))) pa_nil))))
  (pss_one (ps_ret pe_bl))
  pss_nil)
  (pss_cons (ps_if (pt_not (pt_val (pe_call (ok_law_tuple T) (hr.mono (by decide)) (by rfl) T.m__law_tuple T.F_law_tuple.kp T.b_law_tuple .nil pass0 (pa_cons (pv 3) (pa_cons (pe_callTy (k_call_tuple_of (K := K) rfl) (by rfl) T.z_tuple (by decide +kernel) (pa_cons (pe_lc (own := [("k", 5)]) rfl sc_law_pairs_stand.nd (pi_range1 (by rfl) T.z_range (pa_cons (pe_op op_mul pe_int (pv 0)) pa_nil)) (blkOk_by (own := [("k", 5)]) (N := N_law_pairs_stand) (sc := defScope s_law_pairs_stand) (by decide +kernel)) (fun _ _ _ _ _ => (pg_name (i := 5) sc_law_pairs_stand.nd rfl (Or.inl rfl))) (fun _ _ _ _ _ => pts_nil) (fun _ _ _ _ _ => (pe_op op_mod (pe_callTy call_int1 (by rfl) T.z_int (by decide +kernel) (pa_cons (pv 5) pa_nil)) (pv 0)))) pa_nil)) pa_nil)))))
  (pss_one (ps_ret pe_bl))
  pss_nil)
  (pss_cons (ps_set (i := 7) sc_law_pairs_stand.nd rfl (Or.inl rfl) (pe_make T.mk_Colours (ok_Coloursw_initw T) (hr.mono (by decide)) (by rfl) T.m_Colours T.b_Coloursw_initw .nil passNN (pa_cons (pv 2) (pa_cons (pv 0) pa_nil))))
  (pss_cons (ps_set (i := 8) sc_law_pairs_stand.nd rfl (Or.inl rfl) (pe_meth (pv 7) T.cl_Colours T.me_Colours_next_answers (ok_Colours_next_answers T) (hr.mono (by decide)) T.b_Colours_next_answers .nil pass0 (pa_cons (pv 3) pa_nil)))
  (pss_cons (ps_if (PW.pt (pw_or (pt_cmpR op_notBl (pe_meth (pv 7) T.cl_Colours T.me_Colours_is_answer (ok_Colours_is_answer T) (hr.mono (by decide)) T.b_Colours_is_answer .nil pass0 (pa_cons (pv 3) pa_nil)) pe_bl (nomark _)) (pw_or (pt_not (pt_val (pe_callB (k_call_isi (K := K) rfl) (by rfl) T.z_isinstance (by decide +kernel) (pa_cons (pv 8) (pa_cons (pe_bltn (v := .ty "list") (by rfl) T.z_list (by decide +kernel) rfl) pa_nil))))) (pw_or1 (pt_cmpR op_ne (pe_callB (k_call_len_seq (K := K) rfl) (by rfl) T.z_len (by decide +kernel) (pa_cons (pv 8) pa_nil)) pe_int (nomark _))))))
  (pss_one (ps_ret pe_bl))
  pss_nil)
  (pss_cons (ps_for PassesOwn.never rfl (pi_range1 (by rfl) T.z_range (pa_cons (pe_op op_mul pe_int (pv 0)) pa_nil)) (pg_name (i := 9) sc_law_pairs_stand.nd rfl (Or.inl rfl))
  (pss_one (ps_for PassesOwn.never rfl (pi_range1 (by rfl) T.z_range (pa_cons (pv 0) pa_nil)) (pg_name (i := 10) sc_law_pairs_stand.nd rfl (Or.inl rfl))
  (pss_one (ps_if (PW.pt (pw_and (pt_cmpR op_ne (pv 10) (pe_ix (k_ix_tup (K := K) rfl) (pv 3) (pv 9) (fun _ _ => rfl)) (nomark _)) (pw_and1 (pt_cmpR op_notBl (pe_meth (pv 7) T.cl_Colours T.me_Colours_is_answer (ok_Colours_is_answer T) (hr.mono (by decide)) T.b_Colours_is_answer .nil pass0 (pa_cons (pe_call (ok_law_put T) (hr.mono (by decide)) (by rfl) T.m__law_put T.F_law_put.kp T.b_law_put .nil pass0 (pa_cons (pv 3) (pa_cons (pv 9) (pa_cons (pv 10) pa_nil)))) pa_nil)) pe_bl (nomark _)))))
  (pss_one (ps_ret pe_bl))
  pss_nil)))))
  (pss_cons (ps_set (i := 11) sc_law_pairs_stand.nd rfl (Or.inl rfl) (pe_callTy (k_call_tuple_of (K := K) rfl) (by rfl) T.z_tuple (by decide +kernel) (pa_cons (pe_lc (own := [("value", 12)]) rfl sc_law_pairs_stand.nd (k_pi_tup (K := K) rfl (pv 3)) (blkOk_by (own := [("value", 12)]) (N := N_law_pairs_stand) (sc := defScope s_law_pairs_stand) (by decide +kernel)) (fun _ _ _ _ _ => (pg_name (i := 12) sc_law_pairs_stand.nd rfl (Or.inl rfl))) (fun _ _ _ _ _ => pts_nil) (fun _ _ _ _ _ => (pe_op op_sub (pe_op op_sub (pv 0) pe_int) (pv 12)))) pa_nil)))
  (pss_cons (ps_if (PW.pt (pw_or (pt_not (pt_val (pe_call (ok_law_int T) (hr.mono (by decide)) (by rfl) T.m__law_int T.F_law_int.kp T.b_law_int .nil pass0 (pa_cons (pe_call (ok_most_beside T) (hr.mono (by decide)) (by rfl) T.m_most_beside T.F_most_beside.kp T.b_most_beside .nil pass0 (pa_cons (pv 2) pa_nil)) (pa_cons (pe_op op_sub (pv 0) pe_int) pa_nil))))) (pw_or1 (pt_not (pt_val (pe_call (ok_law_refused T) (hr.mono (by decide)) (by rfl) T.m__law_refused T.F_law_refused.kp T.b_law_refused .nil pass0 (pa_cons (pv 2) (pa_cons (pv 0) (pa_cons (pv 3) (pa_cons (pv 11) (pa_cons pe_str (pa_cons (pe_op op_add (pv 0) pe_int) pa_nil))))))))))))
  (pss_one (ps_ret pe_bl))
  pss_nil)
  (pss_one (ps_ret (pe_call (ok_law_row_stands T) (hr.mono (by decide)) (by rfl) T.m__law_row_stands T.F_law_row_stands.kp T.b_law_row_stands .nil pass0 (pa_cons (pe_call (ok_lead_many T) (hr.mono (by decide)) (by rfl) T.m_lead_many T.F_lead_many.kp T.b_lead_many .nil passNN (pa_cons (pv 2) (pa_cons (pe_op op_add (pv 0) pe_int) (pa_cons (pv 3) (pa_cons (pv 11) pa_nil))))) (pa_cons (pv 3) (pa_cons (pv 11) (pa_cons (pv 4) (pa_cons (pe_op op_add (pv 0) pe_int) pa_nil))))))))))))))))))))))), ?_⟩)
  obtain ⟨n, rfl, h2, h7, q⟩ := h
  have F := fr_ok h2 (by omega)
  have hfl := F.len
  refine q_setW (w_call (K := K) (as_v (er_vint rfl).evI as_nil) ?_)
  rintro vs H1 e1 ⟨_, rfl, rfl⟩
  refine ⟨n, rfl, fun m hm _ _ x t v H2 e2 W ht rv => ?_, fun hb => by omega⟩
  obtain rfl : m = n := by omega
  have e02 := e1.trans e2
  refine q_ifF (K := K) (et_orU (et_not (et_B (er_isi_tupV (ev_var rfl) ht (Ex.refl _)))) (et_orU (et_test (er_neI (er_lenV (k := 2) (ev_var rfl) ht (Ex.refl _) rfl) er_int)) (et_not (et_B (er_isiO (ev_ixT (k := 0) (ev_var rfl) ht (Ex.refl _) er_int (w := .ref x) rfl) (W.ty T (Ex.refl _)) (.own _) T.kit_Web_Web))))) (by decide) fun H3 e3 => ?_
  refine q_setV (K := K) (v := .ref x) (ev_ixT (k := 0) (ev_var rfl) ht e3 er_int rfl) fun H4 e4 => ?_
  refine q_setV (K := K) (v := v) (ev_ixT (k := 1) (ev_var rfl) ht (e3.trans e4) er_int rfl) fun H5 e5 => ?_
  have e25 := e3.trans (e4.trans e5)
  refine q_setL (K := K) (α := Tp Int) (xs := []) (el_lst ea_nil) fun p H6 hp e6 o6 => ?_
  have hp2 : H2 p = none := fresh_back e25 hp
  have e2G : Ex H2 (Z.cut H6 p) := cut_of (e25.trans e6) hp2
  refine q_rng (K := K) (n := (m : Int)) (er_vint rfl) (by omega) (by omega) fun H7 e7 => ⟨Z.cut H6 p, fun i σ' H' => (∃ o5 o6, σ' = [some (.int m), some (.ref t), some (.ref x), some v, some (.ref p), o5, o6, none, none, none, none, none, none]) ∧ Own K H' p ((List.range i).flatMap fun (x : Nat) => ((List.range m).filter fun (y : Nat) => !decide ((x : Int) = (y : Int))).map fun (y : Nat) => tp2 (x : Int) ((m : Int) + (y : Int))), cut_ex.trans e7, ⟨⟨_, _, rfl⟩, o6.mono e7⟩, ?_, ?_⟩
  · rintro i σ' H8 hi e8 ⟨⟨o5, o6', rfl⟩, o8⟩
    rw [Int.toNat_natCast] at hi
    refine s_rng (K := K) (n := (m : Int)) (er_vint rfl) (by omega) (by omega) fun H9 e9 => ⟨Z.cut H6 p, fun j σ' H' => (∃ o6, σ' = [some (.int m), some (.ref t), some (.ref x), some v, some (.ref p), some (.int (i : Nat)), o6, none, none, none, none, none, none]) ∧ Own K H' p (((List.range i).flatMap fun (x : Nat) => ((List.range m).filter fun (y : Nat) => !decide ((x : Int) = (y : Int))).map fun (y : Nat) => tp2 (x : Int) ((m : Int) + (y : Int))) ++ ((List.range j).filter fun (y : Nat) => !decide ((i : Int) = (y : Int))).map fun (y : Nat) => tp2 (i : Int) ((m : Int) + (y : Int))), e8.trans e9, ⟨⟨_, rfl⟩, by simpa using o8.mono e9⟩, ?_, ?_⟩
    · rintro j σ' H10 hj e10 ⟨⟨o6', rfl⟩, o10⟩
      rw [Int.toNat_natCast] at hj
      have l1 := frT_len (n := m) i (by omega)
      have l2 := List.length_filter_le (fun (y : Nat) => !decide ((i : Int) = (y : Int))) (List.range j)
      rw [List.length_range] at l2
      have l3 : m * i ≤ 7 * 7 := Nat.mul_le_mul h7 (by omega)
      refine s_if (K := K) (b := !decide ((i : Int) = (j : Int))) (et_test (er_neI (er_vint rfl) (er_vint rfl))) (fun hb H11 e11 => ?_) (fun hb H11 e11 => ?_)
      · refine s_app (K := K) (l := 4) rfl (o10.mono e11) (x := tp2 (i : Int) ((m : Int) + (j : Int))) (er_tup (α := Int) (xs := [_, _]) (ea_cons (er_vint rfl) (ea_cons (er_add (er_vint rfl) (er_vint rfl)) ea_nil))) (by rw [List.length_append, List.length_map]; omega) fun H12 k12 n12 o12 => ⟨k12 _ (e10.trans e11) cut_same, ⟨_, rfl⟩, ?_⟩
        rw [List.range_succ, List.filter_append, List.map_append, ← List.append_assoc]
        have : [j].filter (fun (y : Nat) => !decide ((i : Int) = (y : Int))) = [j] := by rw [List.filter_cons, hb]; rfl
        rw [this]
        exact o12
      · refine ⟨e10.trans e11, ⟨_, rfl⟩, ?_⟩
        rw [List.range_succ, List.filter_append, List.map_append]
        have : [j].filter (fun (y : Nat) => !decide ((i : Int) = (y : Int))) = [] := by rw [List.filter_cons, hb]; rfl
        rw [this, List.map_nil, List.append_nil]
        exact o10.mono e11
    · rintro σ' H10 e10 ⟨⟨o6', rfl⟩, o10⟩
      rw [Int.toNat_natCast] at o10
      refine ⟨e10, ⟨_, _, rfl⟩, ?_⟩
      rw [List.range_succ, List.flatMap_append]
      simpa using o10
  rintro σ' H8 e8 ⟨⟨o5, o6', rfl⟩, o8⟩
  rw [Int.toNat_natCast] at o8
  have o8 : Own K H8 p (frT m) := o8
  have e28 := e2G.trans e8
  have two_m : ((2 * m : Nat) : Int) = 2 * (m : Int) := by omega
  refine q_ifF (K := K) (et_orU (et_not (et_B (er_lint (er_places T (ev_var rfl) W e28) (er_mul (i := 2) er_int (er_vint rfl) (by walk_at "side"))))) (et_orU (et_not (et_B (er_isi_list (er_ties T (ev_var rfl) W e28)))) (et_test (er_neI (ed_lenL (er_ties T (ev_var rfl) W e28)) (ed_lenL (er_own rfl o8 (Ex.refl _))))))) (by simp [two_m]) fun H9 e9 => ?_
  refine q_ifF (K := K) (et_not (et_B (ER.is (er_all (EL.er (el_rmap (n := ((frT m).length : Int)) (f := fun _ => true) (ed_lenL (er_own rfl o8 e9)) (by omega) (by omega) fun k H10 hk e10 => ?_))) (show _ = true by simp)))) rfl fun H10 e10 => ?_
  · have hkl : k < (frT m).length := by omega
    have hx : atI (frT m) (k : Int) = some (frT m)[k] := at_ofN (List.getElem?_eq_getElem hkl)
    have h2l := F.two _ (List.getElem_mem hkl)
    exact er_ltup (x := (frT m)[k]) (er_ixL (xs := frT m) (er_ties T (ev_var rfl) W (e28.trans (e9.trans e10))) (er_vint rfl) hx) (er_ixL (xs := frT m) (er_own rfl o8 (e9.trans e10)) (er_vint rfl) hx) (by omega)
  have e8a := e9.trans e10
  have e2a := e28.trans e8a
  have fsl : (frS m).length = 2 * m := frS_len
  refine q_ifF (K := K) (et_not (et_B (er_ltup (x := tT (frS m)) (er_var rfl rv e2a) (er_tuple (xs := frS m) (EL.er (EL.is (el_rmap (n := 2 * (m : Int)) (f := fun (k : Nat) => (k : Int) % (m : Int)) (er_mul (i := 2) er_int (er_vint rfl) (by walk_at "side")) (by omega) (by omega) fun k H11 hk e11 => er_mod (er_int1 (er_vint rfl)) (er_vint rfl) (by omega)) (by unfold frS; congr 2)))) (by show (frS m).length ≤ _; omega)))) rfl fun H11 e11 => ?_
  have e2b := e2a.trans e11
  have cb : ∀ c : Int, 1 ≤ c → c ≤ 8 → colBad (2 * m) c = false := fun c h0 h1 => by
    unfold colBad
    rw [decide_eq_false (by omega), decide_eq_false (by omega), decide_eq_false (by omega)]
    rfl
  have hms : ((Gr.mostD (2 * m) (eds (frT m)) : Nat) : Int) = (m : Int) - 1 := by have := F.most; omega
  refine q_setW (w_make (K := K) (as_v (ev_var rfl) (as_v (er_vint rfl).evI as_nil)) ?_)
  rintro vs H12 e12 ⟨_, rfl, _, rfl, rfl⟩
  refine mk_col (W.mono (e2b.trans e12)) (fun y H13 hb13 hy e13 X => ?_) fun hb => by rw [cb _ (by omega) (by omega)] at hb; cases hb
  have e2c := e2b.trans (e12.trans e13)
  obtain ⟨dX, wX, hX1, _⟩ := id X
  refine q_setL (K := K) (xs := ([] : List (Tp Int))) (el_meth (ev_var rfl) hX1 (Ex.refl _) rfl (as_r (er_var (i := 3) (x := tT (frS m)) rfl rv e2c) as_nil) ?_) fun ps H14 hps e14 os => ?_
  · rintro vs H' Q e' ⟨v', _, rfl, rv', rfl⟩ q
    exact ⟨y, 2 * m, m, frT m, v', tT (frS m), rfl, X.mono e', rv', fsl, by omega, F.bar, fun p H2 hp e2 o2 => q p H2 hp e2 o2⟩
  have e2d := e2c.trans e14
  have hsl : (L (tT (frS m))).length ≤ 1000 := by show (frS m).length ≤ _; omega
  refine q_ifF (K := K) (et_orU (et_test (er_notBl (er_isCol (s := tT (frS m)) (ev_var rfl) X e14 (er_var rfl rv e2d) hsl) er_bl)) (et_orU (et_not (et_B (er_isi_list (er_own (xs := ([] : List (Tp Int))) rfl os (Ex.refl _))))) (et_test (er_neI (ed_lenL (er_own (xs := ([] : List (Tp Int))) rfl os (Ex.refl _))) er_int)))) (by
    rw [show colB (2 * m) (frT m) (m : Int) (L (tT (frS m))) = true from F.s1]
    rfl) fun H15 e15 => ?_
  have e2e := e2d.trans e15
  refine q_rng (K := K) (n := 2 * (m : Int)) (er_mul (i := 2) er_int (er_vint rfl) (by walk_at "side")) (by omega) (by omega) fun H16 e16 => ⟨H13, fun i σ' _ => ∃ o9 o10, σ' = [some (.int m), some (.ref t), some (.ref x), some v, some (.ref p), o5, o6', some (.ref y), some (.ref ps), o9, o10, none, none], e14.trans (e15.trans e16), ⟨_, _, rfl⟩, ?_, ?_⟩
  · rintro i σ' H17 hi e17 ⟨o9, o10, rfl⟩
    have hi2 : i < 2 * m := by omega
    refine s_rng (K := K) (n := (m : Int)) (er_vint rfl) (by omega) (by omega) fun H18 e18 => ⟨H13, fun j σ' _ => ∃ o10, σ' = [some (.int m), some (.ref t), some (.ref x), some v, some (.ref p), o5, o6', some (.ref y), some (.ref ps), some (.int (i : Nat)), o10, none, none], e17.trans e18, ⟨_, rfl⟩, ?_, ?_⟩
    · rintro j σ' H19 hj e19 ⟨o10, rfl⟩
      rw [Int.toNat_natCast] at hj
      have rvv := rv.mono (e2c.trans e19)
      have ax := at_ofN (sAt (s := frS m) (k := i) (by omega))
      refine s_ifF (K := K) (et_andU (et_test (er_neI (er_vint rfl) (er_ixT (xs := tT (frS m)) (er_var rfl rvv (Ex.refl _)) (er_vint rfl) ax))) (et_test (er_notBl (er_isCol (s := putT (tT (frS m)) (i : Int) (j : Int)) (ev_var rfl) X e19 (er_c3 (x := tT (frS m)) (y := (i : Int)) (z := (j : Int)) (er_var rfl rvv (Ex.refl _)) (er_vint rfl) (er_vint rfl) ⟨by omega, by show (i : Int) < ((frS m).length : Int); omega, hsl⟩) (by rw [put_len]; exact hsl)) er_bl))) ?_ fun H20 e20 => ⟨e19.trans e20, _, rfl⟩
      by_cases z : (j : Int) = (frS m).getD i 0
      · rw [decide_eq_true z]
        rfl
      · have hp := F.put i j hi2 hj z
        have : L (putT (tT (frS m)) (i : Int) (j : Int)) = (frS m).set i (j : Int) := by
          show (frS m).set (i : Int).toNat (j : Int) = _
          rw [Int.toNat_natCast]
        rw [this, hp]
        simp
    · rintro σ' H19 e19 ⟨o10, rfl⟩
      exact ⟨e19, _, _, rfl⟩
  rintro σ' H17 e17 ⟨o9, o10, rfl⟩
  have e2f := e2c.trans e17
  have fol : (frO m).length = 2 * m := by unfold frO; rw [List.length_map, fsl]
  refine q_set (K := K) (α := Tp Int) (x := tT (frO m)) (er_tuple (xs := frO m) (EL.er (el_genA (xs := frS m) (f := fun z => (m : Int) - 1 - z) (in_tup (xs := tT (frS m)) (er_var rfl rv e2f)) (g_name (i := 12) gr_rep) (fun z σ2 H2 hz e2 s2 => ?_) (by omega)))) fun vo H18 e18 ro => ?_
  · obtain ⟨y, rfl, ry⟩ := s2
    obtain rfl := Rep.int ry
    exact er_sub (er_sub (er_vint rfl) er_int) (er_vint rfl)
  have e2g := e2f.trans e18
  have hol : (L (tT (frO m))).length ≤ 1000 := by show (frO m).length ≤ _; omega
  refine q_ifF (K := K) (et_orU (et_not (et_B (ER.is (er_lint (er_most (ev_var rfl) W e2g) (er_sub (er_vint rfl) er_int)) (decide_eq_true hms)))) (et_not (et_B (er_refd (n := 2 * m) (ts := frT m) (c := (m : Int)) (s := tT (frS m)) (g := tT (frO m)) (wd := "few") (due := .int (((Gr.mostD (2 * m) (eds (frT m)) : Nat) : Int) + 2)) (ev_var rfl) W e2g (er_vint rfl) (er_var rfl rv e2g) (er_var rfl ro (Ex.refl _)) er_str (by rw [hms, show (m : Int) - 1 + 2 = (m : Int) + 1 by omega]; exact (er_add (er_vint rfl) er_int).evI) hsl hol (.few (cb _ (by omega) (by omega)) (by omega)))))) rfl fun H19 e19 => ?_
  have e2h := e2g.trans e19
  have ow : Own K H19 p (frT m) := o8.mono (e8a.trans (e11.trans (e12.trans (e13.trans (e17.trans (e18.trans e19))))))
  refine s_ret (K := K) (x := true) (er_rs (n := 2 * m) (ts := frT m) (tl := frT m) (c := (m : Int) + 1) (s := tT (frS m)) (g := tT (frO m)) (ev_var rfl) W e2h (er_add (er_vint rfl) er_int) (er_var rfl rv e2h) (er_var rfl ro e19) (cb _ (by omega) (by omega)) (by omega) F.s2 F.o2 (er_var rfl rv e2h) (er_var rfl ro e19) (er_own rfl ow (Ex.refl _)) (er_add (er_vint rfl) er_int) (List.Perm.refl _) W.ok (by omega)) fun b H20 e20 r20 => ?_
  rw [Rep.bool r20]
  exact q H20 (e02.trans (e2h.trans e20))
theorem er_ps {E : XK} {H : Hp} {t1 : TE} {σ : L2.St} {n : Nat} (h1 : ER K t1 σ H (n : Int)) (h2 : 2 ≤ n) (h7 : n ≤ 7) : ER K (tCall (spPS K) [] E (tCons t1 tNil)) σ H true := by
  refine er_call (as_v h1.evI as_nil) ?_
  rintro vs H' Q e' ⟨_, rfl, rfl⟩ q
  exact ⟨n, rfl, h2, h7, fun H2 e2 => q _ H2 e2 (rep_bool _)⟩
end
set_option Elab.async false
set_option linter.all false
set_option maxRecDepth 100000
set_option maxHeartbeats 4000000
set_option autoImplicit false
open PySem L2 Z
open Evl (Ex)
theorem nrm_ok {n : Nat} {t : Tp Int} (h : TieOk n t) : loT t = (L t).getD 0 0 ∧ hiT t = (L t).getD 1 0 ∧ nrm t = t := by
  have h1 := h.lt
  have a : loT t = (L t).getD 0 0 := by unfold loT; omega
  have b : hiT t = (L t).getD 1 0 := by unfold hiT; omega
  refine ⟨a, b, ?_⟩
  show (show List Int from [loT t, hiT t]) = L t
  rw [a, b]
  exact (two_at h.len).symm
theorem TOk.nrms {n : Nat} {ts : List (Tp Int)} (h : TOk n ts) : ts.map nrm = ts := by
  have : ∀ l : List (Tp Int), (∀ t, t ∈ l → t ∈ ts) → l.map nrm = l := fun l => by
    induction l with
    | nil => intro _; rfl
    | cons t l ih =>
      intro hs
      rw [List.map_cons, ih fun u hu => hs u (List.mem_cons_of_mem _ hu), (nrm_ok (h.ok t (hs t (List.mem_cons_self ..)))).2.2]
  exact this ts fun _ h => h
theorem TOk.good {n : Nat} {ts : List (Tp Int)} (h : TOk n ts) (hn : n ≤ 24) (hl : ts.length ≤ 60) : webBad n ts = none := by
  unfold webBad
  rw [if_neg (by omega)]
  refine wbad_good (fun t ht => ?_) (by rw [h.nrms]; exact h.nd)
  have ok := h.ok t ht
  obtain ⟨a, b, _⟩ := nrm_ok ok
  have h0 := ok.h0
  have h1 := ok.lt
  have h2 := ok.hn
  omega
theorem TOk.perm {n : Nat} {ts : List (Tp Int)} (h : TOk n ts) : (eds (webT ts)).Perm (eds ts) := by
  unfold eds webT
  refine List.Perm.map _ ?_
  have := srtK_perm (f := codeT 64) (xs := ts.map nrm)
  rw [h.nrms] at this ⊢
  exact this
theorem TOk.two {n : Nat} {ts : List (Tp Int)} (h : TOk n ts) : Two ts := fun t ht => (h.ok t ht).len
section
variable {P : Program} {w : World} {K : PySem.W.Frag} {mg : Str → Option Value} {base : Heap} {a : Ad}
theorem er_maxL {H : Hp} {σ : L2.St} {te : TE} {xs : List Int} {m : Int} (h : ER K te σ H xs) (hm : m ∈ xs ∧ ∀ y, y ∈ xs → y ≤ m) : ER K (tCB (rMax K) (tCons te tNil)) σ H m := fun H1 e1 Q q => h H1 e1 _ fun v H2 e2 r => by
  obtain ⟨a, vs, rfl, s, rr⟩ := Rep.list r
  rw [Reps.ints rr] at s
  refine ⟨a, xs, rfl, s, List.length_pos_of_mem hm.1, fun z hz hle => ?_⟩
  have a1 := hle m hm.1
  have a2 := hm.2 z hz
  rw [show z = m by omega]
  exact q _ H2 e2 (rep_int _)
theorem ok_law (T : Txt P K mg a) : FnOk P w K mg base CX0 8 a.f_law a.d_law ["script"] (spLaw K) := by
  refine T.F_law.ok sc_law (fun vs H Q E (h : spLaw K vs H Q E) => by obtain ⟨s0, ns, rfl, _⟩ := h; rfl) (fun cdv A outer s H vs Q E hr h => ⟨_, (pss_cons (ps_set (i := 1) sc_law.nd rfl (Or.inl rfl) (pe_call (ok_law_draw T) (hr.mono (by decide)) (by rfl) T.m__law_draw T.F_law_draw.kp T.b_law_draw .nil pass0 (pa_cons (pe_call (ok_law_cell T) (hr.mono (by decide)) (by rfl) T.m__law_cell T.F_law_cell.kp T.b_law_cell .nil pass0 (pa_cons (pv 0) (pa_cons pe_int pa_nil))) (pa_cons (pe_lst (pa_cons pe_int (pa_cons pe_int (pa_cons pe_int (pa_cons pe_int (pa_cons pe_int (pa_cons pe_int (pa_cons pe_int (pa_cons pe_int (pa_cons pe_int (pa_cons pe_int (pa_cons pe_int (pa_cons pe_int (pa_cons pe_int pa_nil)))))))))))))) pa_nil))))
  (pss_cons (ps_set (i := 2) sc_law.nd rfl (Or.inl rfl) (pe_ix (k_ix_list (K := K) rfl) (pv 1) pe_int (fun _ _ => rfl)))
  (pss_cons (ps_set (i := 3) sc_law.nd rfl (Or.inl rfl) (pe_ix (k_ix_list (K := K) rfl) (pv 1) pe_int (fun _ _ => rfl)))
  (pss_cons (ps_if (pt_cmpR op_eq (pe_ix (k_ix_list (K := K) rfl) (pv 1) pe_int (fun _ _ => rfl)) pe_int (nomark _))
  (pss_cons (ps_set (i := 2) sc_law.nd rfl (Or.inl rfl) (pe_ix (k_ix_list (K := K) rfl) (pv 1) pe_int (fun _ _ => rfl)))
  (pss_one (ps_set (i := 3) sc_law.nd rfl (Or.inl rfl) (pe_ix (k_ix_list (K := K) rfl) (pv 1) pe_int (fun _ _ => rfl)))))
  pss_nil)
  (pss_cons (ps_set (i := 4) sc_law.nd rfl (Or.inr rfl) (pe_call (ok_law_ties T) (hr.mono (by decide)) (by rfl) T.m__law_ties T.F_law_ties.kp T.b_law_ties .nil pass0 (pa_cons (pe_call (ok_law_cell T) (hr.mono (by decide)) (by rfl) T.m__law_cell T.F_law_cell.kp T.b_law_cell .nil pass0 (pa_cons (pv 0) (pa_cons pe_int pa_nil))) (pa_cons (pv 2) (pa_cons (pv 3) (pa_cons (pe_ix (k_ix_list (K := K) rfl) (pv 1) pe_int (fun _ _ => rfl)) pa_nil))))))
  (pss_cons (ps_set (i := 5) sc_law.nd rfl (Or.inl rfl) (pe_op op_add pe_int (pe_callB (k_cr_max (K := K) rfl rfl) (by rfl) T.z_max (by decide +kernel) (pa_cons (pe_op op_cat (pe_lst (pa_cons pe_int pa_nil)) (pe_lc (own := [("place", 12)]) rfl sc_law.nd (pi_range1 (by rfl) T.z_range (pa_cons (pv 2) pa_nil)) (blkOk_by (own := [("place", 12)]) (N := N_law) (sc := defScope s_law) (by decide +kernel)) (fun _ _ _ _ _ => (pg_name (i := 12) sc_law.nd rfl (Or.inl rfl))) (fun _ _ _ _ _ => pts_nil) (fun _ _ _ _ _ => (pe_call (ok_law_beside T) (hr.mono (by decide)) (by rfl) T.m__law_beside T.F_law_beside.kp T.b_law_beside .nil pass0 (pa_cons (pv 12) (pa_cons (pv 4) pa_nil)))))) pa_nil))))
  (pss_cons (ps_set (i := 6) sc_law.nd rfl (Or.inl rfl) (pe_op op_add (pv 5) (pe_op op_mod (pe_callTy call_int1 (by rfl) T.z_int (by decide +kernel) (pa_cons (pe_ix (k_ix_list (K := K) rfl) (pv 1) pe_int (fun _ _ => rfl)) pa_nil)) (pe_op op_sub pe_int (pv 5)))))
  (pss_cons (ps_set (i := 7) sc_law.nd rfl (Or.inl rfl) (pe_call (ok_law_colouring T) (hr.mono (by decide)) (by rfl) T.m__law_colouring T.F_law_colouring.kp T.b_law_colouring .nil pass0 (pa_cons (pe_call (ok_law_cell T) (hr.mono (by decide)) (by rfl) T.m__law_cell T.F_law_cell.kp T.b_law_cell .nil pass0 (pa_cons (pv 0) (pa_cons pe_int pa_nil))) (pa_cons (pv 2) (pa_cons (pv 4) (pa_cons (pv 6) pa_nil))))))
  (pss_cons (ps_set (i := 8) sc_law.nd rfl (Or.inl rfl) (pe_call (ok_law_colouring T) (hr.mono (by decide)) (by rfl) T.m__law_colouring T.F_law_colouring.kp T.b_law_colouring .nil pass0 (pa_cons (pe_call (ok_law_cell T) (hr.mono (by decide)) (by rfl) T.m__law_cell T.F_law_cell.kp T.b_law_cell .nil pass0 (pa_cons (pv 0) (pa_cons pe_int pa_nil))) (pa_cons (pv 2) (pa_cons (pv 4) (pa_cons (pv 6) pa_nil))))))
  (pss_cons (ps_set (i := 9) sc_law.nd rfl (Or.inl rfl) (pe_make T.mk_Web (ok_Webw_initw T) (hr.mono (by decide)) (by rfl) T.m_Web T.b_Webw_initw .nil passNN (pa_cons (pv 2) (pa_cons (pe_callTy (k_call_list_of (K := K) rfl) (by rfl) T.z_list (by decide +kernel) (pa_cons (pv 4) pa_nil)) pa_nil))))
  (pss_cons (ps_if (pt_not (pt_val (pe_call (ok_law_int T) (hr.mono (by decide)) (by rfl) T.m__law_int T.F_law_int.kp T.b_law_int .nil pass0 (pa_cons (pe_call (ok_most_beside T) (hr.mono (by decide)) (by rfl) T.m_most_beside T.F_most_beside.kp T.b_most_beside .nil pass0 (pa_cons (pv 9) pa_nil)) (pa_cons (pe_op op_sub (pv 5) pe_int) pa_nil)))))
  (pss_one (ps_ret pe_bl))
  pss_nil)
  (pss_cons (ps_if (pt_not (pt_val (pe_call (ok_law_row_stands T) (hr.mono (by decide)) (by rfl) T.m__law_row_stands T.F_law_row_stands.kp T.b_law_row_stands .nil pass0 (pa_cons (pe_call (ok_lead_many T) (hr.mono (by decide)) (by rfl) T.m_lead_many T.F_lead_many.kp T.b_lead_many .nil passNN (pa_cons (pv 9) (pa_cons (pv 6) (pa_cons (pv 7) (pa_cons (pv 8) pa_nil))))) (pa_cons (pv 7) (pa_cons (pv 8) (pa_cons (pv 4) (pa_cons (pv 6) pa_nil))))))))
  (pss_one (ps_ret pe_bl))
  pss_nil)
  (pss_cons (ps_set (i := 10) sc_law.nd rfl (Or.inl rfl) (pe_call (ok_law_spoilt T) (hr.mono (by decide)) (by rfl) T.m__law_spoilt T.F_law_spoilt.kp T.b_law_spoilt .nil pass0 (pa_cons (pv 7) (pa_cons (pv 4) (pa_cons (pv 6) (pa_cons (pe_ix (k_ix_list (K := K) rfl) (pv 1) pe_int (fun _ _ => rfl)) (pa_cons (pe_ix (k_ix_list (K := K) rfl) (pv 1) pe_int (fun _ _ => rfl)) pa_nil)))))))
  (pss_cons (ps_set (i := 11) sc_law.nd rfl (Or.inl rfl) (pe_call (ok_law_spoilt T) (hr.mono (by decide)) (by rfl) T.m__law_spoilt T.F_law_spoilt.kp T.b_law_spoilt .nil pass0 (pa_cons (pv 8) (pa_cons (pv 4) (pa_cons (pv 6) (pa_cons (pe_ix (k_ix_list (K := K) rfl) (pv 1) pe_int (fun _ _ => rfl)) (pa_cons (pe_ix (k_ix_list (K := K) rfl) (pv 1) pe_int (fun _ _ => rfl)) pa_nil)))))))
  (pss_cons (ps_if (pt_not (pt_val (pe_call (ok_law_refused T) (hr.mono (by decide)) (by rfl) T.m__law_refused T.F_law_refused.kp T.b_law_refused .nil pass0 (pa_cons (pv 9) (pa_cons (pe_op op_sub (pv 5) pe_int) (pa_cons (pv 10) (pa_cons (pv 8) (pa_cons pe_str (pa_cons (pv 5) pa_nil)))))))))
  (pss_one (ps_ret pe_bl))
  pss_nil)
  (pss_cons (ps_if (pt_not (pt_val (pe_call (ok_law_refused T) (hr.mono (by decide)) (by rfl) T.m__law_refused T.F_law_refused.kp T.b_law_refused .nil pass0 (pa_cons (pv 9) (pa_cons pe_int (pa_cons (pv 7) (pa_cons (pv 11) (pa_cons pe_str (pa_cons (pv 5) pa_nil)))))))))
  (pss_one (ps_ret pe_bl))
  pss_nil)
  (pss_cons (ps_if (pt_not (pt_val (pe_call (ok_law_refused T) (hr.mono (by decide)) (by rfl) T.m__law_refused T.F_law_refused.kp T.b_law_refused .nil pass0 (pa_cons (pv 9) (pa_cons (pe_op op_sub pe_int (pe_ix (k_ix_list (K := K) rfl) (pv 1) pe_int (fun _ _ => rfl))) (pa_cons (pv 10) (pa_cons (pv 8) (pa_cons pe_str (pa_cons (pe_un un_neg pe_int) pa_nil)))))))))
  (pss_one (ps_ret pe_bl))
  pss_nil)
  (pss_cons (ps_if (pt_not (pt_val (pe_call (ok_law_refused T) (hr.mono (by decide)) (by rfl) T.m__law_refused T.F_law_refused.kp T.b_law_refused .nil pass0 (pa_cons (pv 9) (pa_cons (pe_op op_add pe_int (pe_ix (k_ix_list (K := K) rfl) (pv 1) pe_int (fun _ _ => rfl))) (pa_cons (pv 7) (pa_cons (pv 8) (pa_cons pe_str (pa_cons (pe_un un_neg pe_int) pa_nil)))))))))
  (pss_one (ps_ret pe_bl))
  pss_nil)
  (pss_cons (ps_if (pt_not (pt_val (pe_call (ok_law_refused T) (hr.mono (by decide)) (by rfl) T.m__law_refused T.F_law_refused.kp T.b_law_refused .nil pass0 (pa_cons (pe_make T.mk_Web (ok_Webw_initw T) (hr.mono (by decide)) (by rfl) T.m_Web T.b_Webw_initw .nil passNN (pa_cons (pe_op op_add pe_int (pe_ix (k_ix_list (K := K) rfl) (pv 1) pe_int (fun _ _ => rfl))) (pa_cons (pe_lst pa_nil) pa_nil))) (pa_cons (pe_op op_add pe_int (pe_ix (k_ix_list (K := K) rfl) (pv 1) pe_int (fun _ _ => rfl))) (pa_cons (pv 10) (pa_cons (pv 11) (pa_cons pe_str (pa_cons (pe_un un_neg pe_int) pa_nil)))))))))
  (pss_one (ps_ret pe_bl))
  pss_nil)
  (pss_cons (ps_if (pt_not (pt_val (pe_call (ok_law_refused T) (hr.mono (by decide)) (by rfl) T.m__law_refused T.F_law_refused.kp T.b_law_refused .nil pass0 (pa_cons (pv 9) (pa_cons (pv 6) (pa_cons (pv 10) (pa_cons (pv 11) (pa_cons pe_str (pa_cons (pv 10) pa_nil)))))))))
  (pss_one (ps_ret pe_bl))
  pss_nil)
  (pss_cons (ps_if (pt_not (pt_val (pe_call (ok_law_refused T) (hr.mono (by decide)) (by rfl) T.m__law_refused T.F_law_refused.kp T.b_law_refused .nil pass0 (pa_cons (pv 9) (pa_cons (pv 6) (pa_cons (pv 10) (pa_cons (pv 8) (pa_cons pe_str (pa_cons (pv 10) pa_nil)))))))))
  (pss_one (ps_ret pe_bl))
  pss_nil)
  (pss_cons (ps_if (pt_not (pt_val (pe_call (ok_law_refused T) (hr.mono (by decide)) (by rfl) T.m__law_refused T.F_law_refused.kp T.b_law_refused .nil pass0 (pa_cons (pv 9) (pa_cons (pv 6) (pa_cons (pv 7) (pa_cons (pv 11) (pa_cons pe_str (pa_cons (pv 11) pa_nil)))))))))
  (pss_one (ps_ret pe_bl))
  pss_nil)
  (pss_cons (ps_if (pt_not (pt_val (pe_call (ok_law_row_stands T) (hr.mono (by decide)) (by rfl) T.m__law_row_stands T.F_law_row_stands.kp T.b_law_row_stands .nil pass0 (pa_cons (pe_call (ok_lead_many T) (hr.mono (by decide)) (by rfl) T.m_lead_many T.F_lead_many.kp T.b_lead_many .nil passNN (pa_cons (pv 9) (pa_cons (pv 6) (pa_cons (pv 8) (pa_cons (pv 7) pa_nil))))) (pa_cons (pv 8) (pa_cons (pv 7) (pa_cons (pv 4) (pa_cons (pv 6) pa_nil))))))))
  (pss_one (ps_ret pe_bl))
  pss_nil)
  (pss_cons (ps_if (PW.pt (pw_or (pt_not (pt_val (pe_call (ok_law_pairs_refused T) (hr.mono (by decide)) (by rfl) T.m__law_pairs_refused T.F_law_pairs_refused.kp T.b_law_pairs_refused .nil pass0 (pa_cons (pe_op op_sub pe_int (pe_ix (k_ix_list (K := K) rfl) (pv 1) pe_int (fun _ _ => rfl))) pa_nil)))) (pw_or1 (pt_not (pt_val (pe_call (ok_law_pairs_refused T) (hr.mono (by decide)) (by rfl) T.m__law_pairs_refused T.F_law_pairs_refused.kp T.b_law_pairs_refused .nil pass0 (pa_cons (pe_op op_add pe_int (pe_ix (k_ix_list (K := K) rfl) (pv 1) pe_int (fun _ _ => rfl))) pa_nil)))))))
  (pss_one (ps_ret pe_bl))
  pss_nil)
  (pss_one (ps_ret (pe_call (ok_law_pairs_stand T) (hr.mono (by decide)) (by rfl) T.m__law_pairs_stand T.F_law_pairs_stand.kp T.b_law_pairs_stand .nil pass0 (pa_cons (pe_op op_add pe_int (pe_ix (k_ix_list (K := K) rfl) (pv 1) pe_int (fun _ _ => rfl))) pa_nil)))))))))))))))))))))))))))), ?_⟩)
  obtain ⟨s0, ns, rfl, sq, hn, q⟩ := h
  have rs0 : Rep K H (.ref s0) ns := rep_list sq (Reps.int_map ns)
  obtain ⟨bs, hbs⟩ : ∃ bs : List Int, bs = [8, 8, 15, 7, 13, 41, 8, 4, 4, 840, 840, 6, 6] := ⟨_, rfl⟩
  obtain ⟨c0, hc0⟩ : ∃ c, c = cell2 ns 0 := ⟨_, rfl⟩
  obtain ⟨d0, a0, l0, u0⟩ : ∃ x, atI (drw c0 bs) (0 : Int) = some x ∧ 0 ≤ x ∧ x < 8 := draw_at (i := 0) (by rw [hbs]; rfl) (by decide)
  obtain ⟨d1, a1, l1, u1⟩ : ∃ x, atI (drw c0 bs) (1 : Int) = some x ∧ 0 ≤ x ∧ x < 8 := draw_at (i := 1) (by rw [hbs]; rfl) (by decide)
  obtain ⟨d2, a2, l2, u2⟩ : ∃ x, atI (drw c0 bs) (2 : Int) = some x ∧ 0 ≤ x ∧ x < 15 := draw_at (i := 2) (by rw [hbs]; rfl) (by decide)
  obtain ⟨d3, a3, l3, u3⟩ : ∃ x, atI (drw c0 bs) (3 : Int) = some x ∧ 0 ≤ x ∧ x < 7 := draw_at (i := 3) (by rw [hbs]; rfl) (by decide)
  obtain ⟨d4, a4, l4, u4⟩ : ∃ x, atI (drw c0 bs) (4 : Int) = some x ∧ 0 ≤ x ∧ x < 13 := draw_at (i := 4) (by rw [hbs]; rfl) (by decide)
  obtain ⟨d5, a5, l5, u5⟩ : ∃ x, atI (drw c0 bs) (5 : Int) = some x ∧ 0 ≤ x ∧ x < 41 := draw_at (i := 5) (by rw [hbs]; rfl) (by decide)
  obtain ⟨d6, a6, l6, u6⟩ : ∃ x, atI (drw c0 bs) (6 : Int) = some x ∧ 0 ≤ x ∧ x < 8 := draw_at (i := 6) (by rw [hbs]; rfl) (by decide)
  obtain ⟨d7, a7, l7, u7⟩ : ∃ x, atI (drw c0 bs) (7 : Int) = some x ∧ 0 ≤ x ∧ x < 4 := draw_at (i := 7) (by rw [hbs]; rfl) (by decide)
  obtain ⟨d8, a8, l8, u8⟩ : ∃ x, atI (drw c0 bs) (8 : Int) = some x ∧ 0 ≤ x ∧ x < 4 := draw_at (i := 8) (by rw [hbs]; rfl) (by decide)
  obtain ⟨d9, a9, l9, u9⟩ : ∃ x, atI (drw c0 bs) (9 : Int) = some x ∧ 0 ≤ x ∧ x < 840 := draw_at (i := 9) (by rw [hbs]; rfl) (by decide)
  obtain ⟨d10, a10, l10, u10⟩ : ∃ x, atI (drw c0 bs) (10 : Int) = some x ∧ 0 ≤ x ∧ x < 840 := draw_at (i := 10) (by rw [hbs]; rfl) (by decide)
  obtain ⟨d11, a11, l11, u11⟩ : ∃ x, atI (drw c0 bs) (11 : Int) = some x ∧ 0 ≤ x ∧ x < 6 := draw_at (i := 11) (by rw [hbs]; rfl) (by decide)
  obtain ⟨d12, a12, l12, u12⟩ : ∃ x, atI (drw c0 bs) (12 : Int) = some x ∧ 0 ≤ x ∧ x < 6 := draw_at (i := 12) (by rw [hbs]; rfl) (by decide)
  have cl : ∀ {σ : L2.St} {G : Hp} {k : Int} {E : XK}, σ[0]? = some (some (.ref s0)) → Ex H G → 0 ≤ k → ER K (tCall (spCell K) [] E (tCons (tVar 0) (tCons (tC (.int k)) tNil))) σ G (cell2 ns k) := fun h e hk => er_c2 (x := ns) (er_var h rs0 e) er_int hk
  refine q_setL (K := K) (xs := drw c0 bs) ?_ fun ps H1 hps e1 os => ?_
  · rw [hc0, hbs]
    exact el_c2 (x := cell2 ns 0) (y := [8, 8, 15, 7, 13, 41, 8, 4, 4, 840, 840, 6, 6]) (cl rfl (Ex.refl _) (by decide)) (EL.er (el_lst (by walk_at "ev"))) (by decide)
  clear hbs hc0
  have shp : ∀ {σ : L2.St} {G : Hp} {i x : Int}, σ[1]? = some (some (.ref ps)) → Ex H1 G → atI (drw c0 bs) i = some x → ER K (tOp (rIxL K) (tVar 1) (tC (.int i))) σ G x := fun h e hx => er_ixL (er_own h os e) er_int hx
  refine q_setI (K := K) (x := d1) (shp rfl (Ex.refl _) a1) fun H4 e4 => ?_
  refine q_setI (K := K) (x := d4) (shp rfl e4 a4) fun H5 e5 => ?_
  have e15 := e4.trans e5
  refine q_ifJ (K := K) (b := decide (d0 = 1)) (J := fun σ' H' => ∃ n m : Nat, σ' = [some (.ref s0), some (.ref ps), some (.int n), some (.int m), none, none, none, none, none, none, none, none, none] ∧ n ≤ 14 ∧ m ≤ 40 ∧ Ex H1 H')
    ?_ (et_test (er_eqI (shp rfl e15 a0) er_int)) (fun kk hb H6 e6 => ?_) (fun kk hb H6 e6 => kk _ _ ⟨d1.toNat, d4.toNat, by rw [Int.toNat_of_nonneg l1, Int.toNat_of_nonneg l4]; rfl, by omega, by omega, e15.trans e6⟩)
  rotate_left
  · refine q_setI (K := K) (x := d2) (shp rfl (e15.trans e6) a2) fun H7 e7 => ?_
    refine s_setI (K := K) (x := d5) (shp rfl (e15.trans (e6.trans e7)) a5) fun H8 e8 => kk _ _ ⟨d2.toNat, d5.toNat, by rw [Int.toNat_of_nonneg l2, Int.toNat_of_nonneg l5]; rfl, by omega, by omega, e15.trans (e6.trans (e7.trans e8))⟩
  rintro σ' HB ⟨n, m, rfl, hn14, hm40, e1B⟩
  have eB : Ex H HB := e1.trans e1B
  obtain ⟨cap, rfl⟩ : ∃ cap : Nat, d3 = cap := ⟨d3.toNat, by omega⟩
  -- drawn ties
  refine q_setW (w_call (K := K) (as_v (ER.evI (cl rfl eB (by decide))) (as_v (er_vint rfl).evI (as_v (er_vint rfl).evI (as_v (ER.evI (shp rfl e1B a3)) as_nil)))) ?_)
  rintro vs HC eC ⟨_, rfl, _, rfl, _, rfl, _, rfl, rfl⟩
  refine ⟨cell2 ns 1, n, m, cap, rfl, by omega, by omega, fun pt HD ts hpt eD ot hok htl hdeg => ?_⟩
  have eBD := eC.trans eD
  have e0D := eB.trans eBD
  have e1D := e1B.trans eBD
  obtain ⟨D, hD⟩ : ∃ D, D = Gr.mostD n (eds ts) := ⟨_, rfl⟩
  have hD6 : D ≤ 6 := by rw [hD]; exact Gr.most_le fun k _ => by have := hdeg k; omega
  have hDk : ∀ k, k < n → Gr.deg (eds ts) k ≤ D := fun k hk => by rw [hD]; exact Gr.most_ge hk
  refine q_setI (K := K) (x := (D : Int) + 2) (ER.is (er_add er_int (er_maxL (xs := [0] ++ (List.range (n : Int).toNat).map fun (k : Nat) => bes (k : Int) ts) (m := (D : Int)) (EL.er (el_cat (el_lst (ea_cons er_int ea_nil)) (el_rmap (n := (n : Int)) (f := fun (k : Nat) => bes (k : Int) ts) (er_vint rfl) (by omega) (by omega) fun k H8 hk e8 => er_lbes (er_vint rfl) (er_own (i := 4) rfl ot e8) (by omega)) (by rw [List.length_map, List.length_range]; simp; omega))) ?_)) (by omega)) fun HE eE => ?_
  · rw [Int.toNat_natCast]
    constructor
    · rcases Nat.eq_zero_or_pos n with z | z
      · subst z
        rw [show D = 0 by rw [hD]; rfl]
        exact List.mem_append_left _ (List.mem_singleton.mpr rfl)
      · obtain ⟨k, hk, e⟩ := Gr.most_in (E := eds ts) z
        refine List.mem_append_right _ (List.mem_map.mpr ⟨k, List.mem_range.mpr hk, ?_⟩)
        rw [bes_deg hok, e, hD]
    · intro y hy
      rcases List.mem_append.mp hy with hy | hy
      · rw [List.mem_singleton.mp hy]; omega
      · obtain ⟨k, hk, rfl⟩ := List.mem_map.mp hy
        rw [bes_deg hok]
        have := hDk k (List.mem_range.mp hk)
        omega
  have m0 := Int.emod_nonneg d6 (show (9 : Int) - ((D : Int) + 2) ≠ 0 by omega)
  have m1 := Int.emod_lt_of_pos d6 (show (0 : Int) < 9 - ((D : Int) + 2) by omega)
  obtain ⟨cn, hcn⟩ : ∃ cn : Nat, (cn : Int) = (D : Int) + 2 + d6 % (9 - ((D : Int) + 2)) := ⟨((D : Int) + 2 + d6 % (9 - ((D : Int) + 2))).toNat, by omega⟩
  have hc0 : D + 2 ≤ cn := by omega
  have hc1 : cn ≤ 8 := by omega
  refine q_setI (K := K) (x := (cn : Int)) (ER.is (er_add (er_vint rfl) (er_mod (er_int1 (shp rfl (e1D.trans eE) a6)) (er_sub er_int (er_vint rfl)) (by omega))) hcn.symm) fun HF eF => ?_
  have eDF := eE.trans eF
  have e0F := e0D.trans eDF
  have e1F := e1D.trans eDF
  -- two colourings
  refine q_setW (w_call (K := K) (as_v (ER.evI (cl rfl e0F (by decide))) (as_v (er_vint rfl).evI (as_r (er_own (i := 4) rfl ot eDF) (as_v (er_vint rfl).evI as_nil)))) ?_)
  rintro vs HG eG ⟨_, rfl, _, rfl, v, _, rfl, rv, _, rfl, rfl⟩
  refine ⟨cell2 ns 2, n, cn, v, ts, rfl, by omega, by omega, rv, hok, fun j hj => by have := hDk j hj; omega, fun us s HH eH rus prs => ?_⟩
  have eDH := eDF.trans (eG.trans eH)
  refine q_setW (w_call (K := K) (as_v (ER.evI (cl rfl (e0D.trans eDH) (by decide))) (as_v (er_vint rfl).evI (as_r (er_own (i := 4) rfl ot eDH) (as_v (er_vint rfl).evI as_nil)))) ?_)
  rintro vs HI eI ⟨_, rfl, _, rfl, v', _, rfl, rv', _, rfl, rfl⟩
  refine ⟨cell2 ns 3, n, cn, v', ts, rfl, by omega, by omega, rv', hok, fun j hj => by have := hDk j hj; omega, fun ug g HJ eJ rug prg => ?_⟩
  have eHJ := eI.trans eJ
  have eDJ := eDH.trans eHJ
  have rus := rus.mono eHJ
  -- the web
  have hgood := hok.good (by omega) (by omega)
  refine q_setW (w_make (K := K) (as_v (er_vint rfl).evI (as_r (EL.er (el_list (er_own (i := 4) rfl ot eDJ))) as_nil)) ?_)
  rintro vs HK eK ⟨_, rfl, vt, _, rfl, rt, rfl⟩
  refine mk_web (ts := ts) rt hok.two (by omega) (fun m' x HL hm' _ hx eL W _ => ?_) fun i hi => by rw [hgood] at hi; cases hi
  obtain rfl : m' = n := by omega
  have eJL := eK.trans eL
  have rus := rus.mono eJL
  have rug := rug.mono eJL
  have eDL := eDJ.trans eJL
  have e1L := e1D.trans eDL
  have e0L := e0D.trans eDL
  have otL := ot.mono eDL
  have pm := hok.perm
  have hDw : Gr.mostD m' (eds (webT ts)) = D := by
    rw [hD]
    exact Gr.mostD_perm W.ok.lt pm
  have ks : colB m' (webT ts) cn (L s) = true := colB_prp.mpr (prs.perm pm.symm)
  have kg : colB m' (webT ts) cn (L g) = true := colB_prp.mpr (prg.perm pm.symm)
  have cb : ∀ c : Int, 1 ≤ c → c ≤ 8 → colBad m' c = false := fun c h0 h1 => by
    unfold colBad
    rw [decide_eq_false (by omega), decide_eq_false (by omega), decide_eq_false (by omega)]
    rfl
  have cbT : ∀ c : Int, c < 1 ∨ 8 < c → colBad m' c = true := fun c h => by
    unfold colBad
    rcases h with h | h
    · rw [decide_eq_true h, Bool.true_or, Bool.or_true]
    · rw [decide_eq_true h, Bool.or_true, Bool.or_true]
  have lsl : (L s).length ≤ 1000 := by have := prs.len; omega
  have lgl : (L g).length ≤ 1000 := by have := prg.len; omega
  refine q_ifF (K := K) (et_not (et_B (ER.is (er_lint (er_most (ev_var rfl) W (Ex.refl _)) (er_sub (er_vint rfl) er_int)) (decide_eq_true (by rw [hDw]; omega))))) rfl fun HM eM => ?_
  refine q_ifF (K := K) (et_not (et_B (er_rs (n := m') (ts := webT ts) (tl := ts) (c := (cn : Int)) (s := s) (g := g) (ev_var rfl) W eM (er_vint rfl) (er_var rfl rus eM) (er_var rfl rug eM) (cb _ (by omega) (by omega)) (by rw [hDw]; omega) ks kg (er_var rfl rus eM) (er_var rfl rug eM) (er_own rfl otL eM) (er_vint rfl) pm hok (by omega)))) rfl fun HN eN => ?_
  have eLN := eM.trans eN
  -- spoilt ones
  refine q_setW (w_call (K := K) (as_r (er_var rfl rus eLN) (as_r (er_own (i := 4) rfl otL eLN) (as_v (er_vint rfl).evI (as_v (ER.evI (shp rfl (e1L.trans eLN) a7)) (as_v (ER.evI (shp rfl (e1L.trans eLN) a9)) as_nil))))) ?_)
  rintro vs HO eO ⟨w1, _, rfl, rw1, w2, _, rfl, rw2, _, rfl, _, rfl, _, rfl, rfl⟩
  refine ⟨w1, w2, s, m', ts, cn, d7, d9, rfl, rw1, rw2, by omega, by omega, hok, prs, fun uw t1 HP eP ruw l1 np1 => ?_⟩
  have eLP := eLN.trans (eO.trans eP)
  refine q_setW (w_call (K := K) (as_r (er_var rfl rug eLP) (as_r (er_own (i := 4) rfl otL eLP) (as_v (er_vint rfl).evI (as_v (ER.evI (shp rfl (e1L.trans eLP) a8)) (as_v (ER.evI (shp rfl (e1L.trans eLP) a10)) as_nil))))) ?_)
  rintro vs HQ eQ ⟨w1, _, rfl, rw1, w2, _, rfl, rw2, _, rfl, _, rfl, _, rfl, rfl⟩
  refine ⟨w1, w2, g, m', ts, cn, d8, d10, rfl, rw1, rw2, by omega, by omega, hok, prg, fun uo t2 HR eR ruo l2' np2 => ?_⟩
  have ePR := eQ.trans eR
  have eLR := eLP.trans ePR
  have ruw := ruw.mono ePR
  have rus := rus.mono eLR
  have rug := rug.mono eLR
  have W := W.mono eLR
  have e1R := e1L.trans eLR
  have otR := otL.mono eLR
  have k1 : colB m' (webT ts) cn (L t1) = false := by
    rw [Bool.eq_false_iff]
    exact fun z => np1 ((colB_prp.mp z).perm pm)
  have k2 : colB m' (webT ts) cn (L t2) = false := by
    rw [Bool.eq_false_iff]
    exact fun z => np2 ((colB_prp.mp z).perm pm)
  have hneed : ((Gr.mostD m' (eds (webT ts)) : Nat) : Int) + 2 = (D : Int) + 2 := by rw [hDw]
  have few : ∀ {G : Hp} {c : Int} {x y : Tp Int}, 1 ≤ c → c < (D : Int) + 2 → RefC K G m' (webT ts) c x y "few" (.int ((D : Int) + 2)) := fun h0 h1 => by
    rw [← hneed]
    exact .few (cb _ h0 (by omega)) (by omega)
  refine q_ifF (K := K) (et_not (et_B (er_refd (n := m') (ts := webT ts) (c := (D : Int) + 2 - 1) (s := t1) (g := g) (wd := "few") (due := .int ((D : Int) + 2)) (ev_var rfl) W (Ex.refl _) (er_sub (er_vint rfl) er_int) (er_var rfl ruw (Ex.refl _)) (er_var rfl rug (Ex.refl _)) er_str (ev_var rfl) l1 lgl (few (by omega) (by omega))))) rfl fun HS eS => ?_
  refine q_ifF (K := K) (et_not (et_B (er_refd (n := m') (ts := webT ts) (c := 1) (s := s) (g := t2) (wd := "few") (due := .int ((D : Int) + 2)) (ev_var rfl) W eS er_int (er_var rfl rus eS) (er_var rfl ruo eS) er_str (ev_var rfl) lsl l2' (few (by omega) (by omega))))) rfl fun HT eT => ?_
  have eRT := eS.trans eT
  refine q_ifF (K := K) (et_not (et_B (er_refd (n := m') (ts := webT ts) (c := 0 - d11) (s := t1) (g := g) (wd := "world") (due := .int (-1)) (ev_var rfl) W eRT (er_sub er_int (shp rfl (e1R.trans eRT) a11)) (er_var rfl ruw eRT) (er_var rfl rug eRT) er_str (er_neg er_int).evI l1 lgl (.world (cbT _ (by omega)))))) rfl fun HU eU => ?_
  have eRU := eRT.trans eU
  refine q_ifF (K := K) (et_not (et_B (er_refd (n := m') (ts := webT ts) (c := 9 + d11) (s := s) (g := g) (wd := "world") (due := .int (-1)) (ev_var rfl) W eRU (er_add er_int (shp rfl (e1R.trans eRU) a11)) (er_var rfl rus eRU) (er_var rfl rug eRU) er_str (er_neg er_int).evI lsl lgl (.world (cbT _ (by omega)))))) rfl fun HV eV => ?_
  have eRV := eRU.trans eV
  refine q_ifF (K := K) (et_not (et_B (er_call (x := true) (as_p (R1 := fun v H => ∃ x, v = .ref x ∧ Wb K a.C_Web H x (15 + d11).toNat []) (fun v G H' e ⟨x, h, W⟩ => ⟨x, h, W.mono e⟩) (fun H1 e1' Q q => ?_) (as_v (ER.evI (i := 1 + d6) (er_add er_int (shp rfl (e1R.trans eRV) a6))) (as_r (er_var rfl ruw eRV) (as_r (er_var rfl ruo eRV) (as_v (er_str (K := K)).evS (as_v (er_neg er_int).evI as_nil)))))) ?_))) rfl fun HW eW => ?_
  · refine w_make (K := K) (as_v (ER.evI (i := 15 + d11) (er_add er_int (shp rfl (e1R.trans (eRV.trans e1')) a11))) (as_r (α := List (Tp Int)) (EL.er (el_lst (xs := []) ea_nil)) as_nil)) ?_
    rintro vs H2 e2 ⟨_, rfl, v, _, rfl, rv, rfl⟩
    have hg0 : webBad (15 + d11) [] = none := by
      unfold webBad
      rw [if_neg (by simp; omega)]
      rfl
    refine mk_web (ts := []) rv (fun t ht => (List.not_mem_nil ht).elim) (by decide) (fun k x H3 hk _ hx e3 W _ => q _ H3 (e2.trans e3) ⟨x, rfl, ?_⟩) fun i hi => by rw [hg0] at hi; cases hi
    rw [show (15 + d11).toNat = k by omega]
    have hw : webT [] = [] := by unfold webT srtK; rw [List.map_nil, List.mergeSort_nil]
    rw [hw] at W
    exact W
  · rintro vs H' Q' e ⟨_, _, rfl, ⟨x5, rfl, W5⟩, _, rfl, v, _, rfl, rv, u, _, rfl, ru, _, rfl, _, rfl, rfl⟩ q'
    exact ⟨x5, (15 + d11).toNat, [], 1 + d6, v, u, t1, t2, "world", .int (-1), rfl, W5, rv, ru, l1, l2', .world (by
      unfold colBad
      rw [decide_eq_true (by omega)]
      rfl), fun H2 e2 => q' _ H2 e2 (rep_bool true)⟩
  have eRW := eRV.trans eW
  refine q_ifF (K := K) (et_not (et_B (er_refd (n := m') (ts := webT ts) (c := (cn : Int)) (s := t1) (g := t2) (wd := "setting") (due := uw) (ev_var rfl) W eRW (er_vint rfl) (er_var rfl ruw eRW) (er_var rfl ruo eRW) er_str (ev_var rfl) l1 l2' (.st _ (cb _ (by omega) (by omega)) (by rw [hDw]; omega) k1 (ruw.mono eRW))))) rfl fun HX eX => ?_
  have eRX := eRW.trans eX
  refine q_ifF (K := K) (et_not (et_B (er_refd (n := m') (ts := webT ts) (c := (cn : Int)) (s := t1) (g := g) (wd := "setting") (due := uw) (ev_var rfl) W eRX (er_vint rfl) (er_var rfl ruw eRX) (er_var rfl rug eRX) er_str (ev_var rfl) l1 lgl (.st _ (cb _ (by omega) (by omega)) (by rw [hDw]; omega) k1 (ruw.mono eRX))))) rfl fun HY eY => ?_
  have eRY := eRX.trans eY
  refine q_ifF (K := K) (et_not (et_B (er_refd (n := m') (ts := webT ts) (c := (cn : Int)) (s := s) (g := t2) (wd := "setting") (due := uo) (ev_var rfl) W eRY (er_vint rfl) (er_var rfl rus eRY) (er_var rfl ruo eRY) er_str (ev_var rfl) lsl l2' (.go _ (cb _ (by omega) (by omega)) (by rw [hDw]; omega) ks k2 (ruo.mono eRY))))) rfl fun HZ eZ => ?_
  have eRZ := eRY.trans eZ
  refine q_ifF (K := K) (et_not (et_B (er_rs (n := m') (ts := webT ts) (tl := ts) (c := (cn : Int)) (s := g) (g := s) (ev_var rfl) W eRZ (er_vint rfl) (er_var rfl rug eRZ) (er_var rfl rus eRZ) (cb _ (by omega) (by omega)) (by rw [hDw]; omega) kg ks (er_var rfl rug eRZ) (er_var rfl rus eRZ) (er_own rfl otR eRZ) (er_vint rfl) pm hok (by omega)))) rfl fun H20 e20 => ?_
  have eR20 := eRZ.trans e20
  refine q_ifF (K := K) (et_orU (et_not (et_B (er_pref (er_sub er_int (shp rfl (e1R.trans eR20) a11)) (by omega)))) (et_not (et_B (er_pref (er_add er_int (shp rfl (e1R.trans eR20) a11)) (by omega))))) rfl fun H21 e21 => ?_
  have eR21 := eR20.trans e21
  refine s_ret (K := K) (x := true) (er_ps (n := (2 + d12).toNat) (ER.is (er_add er_int (shp rfl (e1R.trans eR21) a12)) (by omega)) (by omega) (by omega)) fun b H22 e22 r22 => ?_
  rw [Rep.bool r22]
  exact q H22
end
set_option Elab.async false
set_option linter.all false
set_option maxRecDepth 100000
open PySem L2 Z
theorem fin {P : Program} {w : World} {K : PySem.W.Frag} {mg : Str → Option Value} {fa : Addr} (k : Nat) (law : ∀ {base : Heap} {a : Ad}, Txt P K mg a → FnOk P w K mg base CX0 k a.f_law a.d_law ["script"] (spLaw K)) (hfa : mg "law" = some (.ref fa)) (T : ∃ a, Txt P K mg a) :
    ∃ fd : FuncData, (∀ (s : Shared) (v : Value), BindsTo s fd ⟨[v], []⟩ [("script", v)]) ∧ ∀ base : Heap, K.In base → base.Ns mainGlobals mg → FnOk P w K mg base CX0 k fa fd ["script"] (spLaw K) := by
  obtain ⟨a, T⟩ := T
  have e := hfa.symm.trans T.m_law
  cases e
  obtain ⟨oc, od, kV, doc, pm, an, cdv, ct, osl, e, _, _⟩ := T.F_law.ex
  exact ⟨a.d_law, fun s v => by rw [e]; exact .of_eq rfl, fun base _ _ => law T⟩
end Y
open PySem PySem.W PyProof.Rows in
set_option maxRecDepth 100000 in
set_option maxHeartbeats 0 in
theorem PySem.Challenge.cw_everystepstands_k92_many_colours_within_holds : PySem.Challenge.rw_everystepstands_k92_many_colours_within.Holds := by
  w_on; o_law; k_head; (case hw => w_witness2)
  k_fill
  refine Z.walk (k := 8) (l := PySem.Challenge.rw_everystepstands_k92_many_colours_within) rfl (by decide) (by decide) rfl (fun w h Y => PySem.W.kIn_of Y) ?F
  case F =>
    intro w mg fa h KX G hmg
    refine' Y.fin 8 (fun T => Y.ok_law T) hmg ⟨_, Y.all_mk KX G ?z_ValueError ?z_all ?z_bool ?z_enumerate ?z_int ?z_isinstance ?z_iter ?z_len ?z_list ?z_max ?z_min ?z_range ?z_sorted ?z_super ?z_tuple ?m_MOST_PLACES ?m_MOST_TIES ?m_StepError ?hg_StepError ?hk_StepError ?hs_StepError ?hd_StepError ?ha_StepError ?hm_StepError ?m_BadWeb ?hg_BadWeb ?hk_BadWeb ?hs_BadWeb ?hd_BadWeb ?ha_BadWeb ?hm_BadWeb ?x_BadWebw_initw ?rv_BadWebw_initw ?i_BadWebw_initw ?l_BadWebw_initw ?cd_BadWebw_initw ?kc_BadWebw_initw ?kv_BadWebw_initw ?kf_BadWebw_initw ?cc_BadWebw_initw ?kp_BadWebw_initw ?ti_BadWebw_initw ?ic_BadWebw_initw ?sa_BadWebw_initw ?ty_BadWebw_initw ?ke_BadWebw_initw ?su_BadWebw_initw ?ve_BadWebw_initw ?mr_BadWebw_initw ?nf_BadWeb_index ?m_BadWorld ?hg_BadWorld ?hk_BadWorld ?hs_BadWorld ?hd_BadWorld ?ha_BadWorld ?hm_BadWorld ?x_BadWorldw_initw ?rv_BadWorldw_initw ?i_BadWorldw_initw ?l_BadWorldw_initw ?cd_BadWorldw_initw ?kc_BadWorldw_initw ?kv_BadWorldw_initw ?kf_BadWorldw_initw ?cc_BadWorldw_initw ?kp_BadWorldw_initw ?ti_BadWorldw_initw ?ic_BadWorldw_initw ?sa_BadWorldw_initw ?ty_BadWorldw_initw ?ke_BadWorldw_initw ?su_BadWorldw_initw ?ve_BadWorldw_initw ?mr_BadWorldw_initw ?nf_BadWorld_index ?m_NotARow ?hg_NotARow ?hk_NotARow ?hs_NotARow ?hd_NotARow ?ha_NotARow ?hm_NotARow ?x_NotARoww_initw ?rv_NotARoww_initw ?i_NotARoww_initw ?l_NotARoww_initw ?cd_NotARoww_initw ?kc_NotARoww_initw ?kv_NotARoww_initw ?kf_NotARoww_initw ?cc_NotARoww_initw ?kp_NotARoww_initw ?ti_NotARoww_initw ?ic_NotARoww_initw ?sa_NotARoww_initw ?ty_NotARoww_initw ?ke_NotARoww_initw ?su_NotARoww_initw ?ve_NotARoww_initw ?mr_NotARoww_initw ?nf_NotARow_index ?m_NotAnAnswer ?hg_NotAnAnswer ?hk_NotAnAnswer ?hs_NotAnAnswer ?hd_NotAnAnswer ?ha_NotAnAnswer ?hm_NotAnAnswer ?x_NotAnAnswerw_initw ?rv_NotAnAnswerw_initw ?i_NotAnAnswerw_initw ?l_NotAnAnswerw_initw ?cd_NotAnAnswerw_initw ?kc_NotAnAnswerw_initw ?kv_NotAnAnswerw_initw ?kf_NotAnAnswerw_initw ?cc_NotAnAnswerw_initw ?kp_NotAnAnswerw_initw ?ti_NotAnAnswerw_initw ?ic_NotAnAnswerw_initw ?sa_NotAnAnswerw_initw ?ty_NotAnAnswerw_initw ?ke_NotAnAnswerw_initw ?su_NotAnAnswerw_initw ?ve_NotAnAnswerw_initw ?mr_NotAnAnswerw_initw ?nf_NotAnAnswer_setting ?m_RowsApart ?hg_RowsApart ?hk_RowsApart ?hs_RowsApart ?hd_RowsApart ?ha_RowsApart ?hm_RowsApart ?x_RowsApartw_initw ?rv_RowsApartw_initw ?i_RowsApartw_initw ?l_RowsApartw_initw ?cd_RowsApartw_initw ?kc_RowsApartw_initw ?kv_RowsApartw_initw ?kf_RowsApartw_initw ?cc_RowsApartw_initw ?kp_RowsApartw_initw ?ti_RowsApartw_initw ?ic_RowsApartw_initw ?sa_RowsApartw_initw ?ty_RowsApartw_initw ?ke_RowsApartw_initw ?su_RowsApartw_initw ?ve_RowsApartw_initw ?mr_RowsApartw_initw ?m_TooFew ?hg_TooFew ?hk_TooFew ?hs_TooFew ?hd_TooFew ?ha_TooFew ?hm_TooFew ?x_TooFeww_initw ?rv_TooFeww_initw ?i_TooFeww_initw ?l_TooFeww_initw ?cd_TooFeww_initw ?kc_TooFeww_initw ?kv_TooFeww_initw ?kf_TooFeww_initw ?cc_TooFeww_initw ?kp_TooFeww_initw ?ti_TooFeww_initw ?ic_TooFeww_initw ?sa_TooFeww_initw ?ty_TooFeww_initw ?ke_TooFeww_initw ?su_TooFeww_initw ?ve_TooFeww_initw ?mr_TooFeww_initw ?nf_TooFew_needed ?m_World ?pg_World ?hd_World ?po_World ?sa_World ?ha_World ?hm_World ?na_World_size ?m_Colours ?pg_Colours ?hd_Colours ?po_Colours ?sa_Colours ?ha_Colours ?hm_Colours ?na_Colours_web ?na_Colours_colours ?na_Colours_size ?m_Row ?pg_Row ?hd_Row ?po_Row ?sa_Row ?ha_Row ?hm_Row ?na_Row_settings ?m_Web ?pg_Web ?hd_Web ?po_Web ?sa_Web ?ha_Web ?hm_Web ?na_Web_places ?na_Web_ties ?na_Web_near ?m_with_value ?l_with_value ?c_with_value ?k_with_value ?me_Worldw_initw ?l_Worldw_initw ?c_Worldw_initw ?k_Worldw_initw ?fn_Worldw_initw ?mk_World ?kc_World ?me_World_is_answer ?l_World_is_answer ?c_World_is_answer ?k_World_is_answer ?fn_World_is_answer ?me_World_next_answers ?l_World_next_answers ?c_World_next_answers ?k_World_next_answers ?fn_World_next_answers ?m_check_answer ?l_check_answer ?c_check_answer ?k_check_answer ?me_Coloursw_initw ?fn_Coloursw_initw ?mk_Colours ?kc_Colours ?l_Coloursw_initw ?cd_Coloursw_initw ?kd_Coloursw_initw ?kv_Coloursw_initw ?kf_Coloursw_initw ?cc_Coloursw_initw ?kp_Coloursw_initw ?ic_Coloursw_initw ?su_Coloursw_initw ?tb_Coloursw_initw ?mr_Coloursw_initw ?fi_Coloursw_initw ?me_Colours_is_answer ?l_Colours_is_answer ?c_Colours_is_answer ?k_Colours_is_answer ?fn_Colours_is_answer ?me_Colours_next_answers ?l_Colours_next_answers ?c_Colours_next_answers ?k_Colours_next_answers ?fn_Colours_next_answers ?me_Roww_initw ?l_Roww_initw ?c_Roww_initw ?k_Roww_initw ?fn_Roww_initw ?mk_Row ?kc_Row ?pa_Row_start ?pr_Row_start ?pt_Row_start ?pk_Row_start ?l_Row_start ?c_Row_start ?k_Row_start ?pa_Row_goal ?pr_Row_goal ?pt_Row_goal ?pk_Row_goal ?l_Row_goal ?c_Row_goal ?k_Row_goal ?pa_Row_steps ?pr_Row_steps ?pt_Row_steps ?pk_Row_steps ?l_Row_steps ?c_Row_steps ?k_Row_steps ?me_Roww_addw ?l_Roww_addw ?c_Roww_addw ?k_Roww_addw ?fn_Roww_addw ?sf_Row ?me_Roww_iterw ?l_Roww_iterw ?c_Roww_iterw ?k_Roww_iterw ?fn_Roww_iterw ?me_Webw_initw ?l_Webw_initw ?c_Webw_initw ?k_Webw_initw ?fn_Webw_initw ?mk_Web ?kc_Web ?me_Web_tied ?l_Web_tied ?c_Web_tied ?k_Web_tied ?fn_Web_tied ?m_most_beside ?l_most_beside ?c_most_beside ?k_most_beside ?m_spare_colour ?l_spare_colour ?c_spare_colour ?k_spare_colour ?m_lead_many ?l_lead_many ?c_lead_many ?k_lead_many ?m_frozen_pairs ?l_frozen_pairs ?c_frozen_pairs ?k_frozen_pairs ?m__law_cell ?l_law_cell ?c_law_cell ?k_law_cell ?m__law_draw ?l_law_draw ?c_law_draw ?k_law_draw ?m__law_int ?l_law_int ?c_law_int ?k_law_int ?m__law_tuple ?l_law_tuple ?c_law_tuple ?k_law_tuple ?m__law_beside ?l_law_beside ?c_law_beside ?k_law_beside ?m__law_ties ?l_law_ties ?c_law_ties ?k_law_ties ?m__law_colouring ?l_law_colouring ?c_law_colouring ?k_law_colouring ?m__law_put ?l_law_put ?c_law_put ?k_law_put ?m__law_spoilt ?l_law_spoilt ?c_law_spoilt ?k_law_spoilt ?m__law_coloured ?l_law_coloured ?c_law_coloured ?k_law_coloured ?m__law_row_stands ?l_law_row_stands ?c_law_row_stands ?k_law_row_stands ?m__law_refused ?l_law_refused ?c_law_refused ?k_law_refused ?m__law_pairs_refused ?l_law_pairs_refused ?c_law_pairs_refused ?k_law_pairs_refused ?m__law_pairs_stand ?l_law_pairs_stand ?c_law_pairs_stand ?k_law_pairs_stand ?m_law ?l_law ?c_law ?k_law ?cr1_Colours ?cr2_Colours ?cv_Colours_MOST_PLACES ?cv_Colours_MOST_COLOURS ?hcn ?hct ?hop ?htop ?kit_Web_Web ?kit_Row_Row ?kit_BadWorld_TooFew ?kit_BadWorld_NotAnAnswer ?kit_BadWorld_StepError ?kit_BadWorld_ValueError ?exm_BadWorld_BadWorld ?exm_TooFew_BadWorld ?exm_TooFew_TooFew ?kit_TooFew_NotAnAnswer ?kit_TooFew_StepError ?kit_TooFew_ValueError ?exm_NotAnAnswer_BadWorld ?exm_NotAnAnswer_TooFew ?exm_NotAnAnswer_NotAnAnswer ?kit_NotAnAnswer_StepError ?kit_NotAnAnswer_ValueError⟩
    (case z_ValueError => k_is)
    (case z_all => k_is)
    (case z_bool => k_is)
    (case z_enumerate => k_is)
    (case z_int => k_is)
    (case z_isinstance => k_is)
    (case z_iter => k_is)
    (case z_len => k_is)
    (case z_list => k_is)
    (case z_max => k_is)
    (case z_min => k_is)
    (case z_range => k_is)
    (case z_sorted => k_is)
    (case z_super => k_is)
    (case z_tuple => k_is)
    (case m_MOST_PLACES => k_is)
    (case m_MOST_TIES => k_is)
    (case m_StepError => k_is)
    (case hg_StepError => k_is)
    (case hk_StepError => k_is)
    (case hs_StepError => k_is)
    (case hd_StepError => k_is)
    (case ha_StepError => k_is)
    (case hm_StepError => k_is)
    (case m_BadWeb => k_is)
    (case hg_BadWeb => k_is)
    (case hk_BadWeb => k_is)
    (case hs_BadWeb => k_is)
    (case hd_BadWeb => k_is)
    (case ha_BadWeb => k_is)
    (case hm_BadWeb => k_is)
    (case x_BadWebw_initw => k_is)
    (case rv_BadWebw_initw => kernel_rfl)
    (case i_BadWebw_initw => k_is)
    (case l_BadWebw_initw => k_is)
    (case cd_BadWebw_initw => k_is)
    (case kc_BadWebw_initw => k_is)
    (case kv_BadWebw_initw => rfl)
    (case kf_BadWebw_initw => decide +kernel)
    (case cc_BadWebw_initw => k_is)
    (case kp_BadWebw_initw => k_is)
    (case ti_BadWebw_initw => k_is)
    (case ic_BadWebw_initw => k_is)
    (case sa_BadWebw_initw => k_is)
    (case ty_BadWebw_initw => k_is)
    (case ke_BadWebw_initw => k_is)
    (case su_BadWebw_initw => kernel_rfl)
    (case ve_BadWebw_initw => k_is)
    (case mr_BadWebw_initw => k_is)
    (case nf_BadWeb_index => k_is)
    (case m_BadWorld => k_is)
    (case hg_BadWorld => k_is)
    (case hk_BadWorld => k_is)
    (case hs_BadWorld => k_is)
    (case hd_BadWorld => k_is)
    (case ha_BadWorld => k_is)
    (case hm_BadWorld => k_is)
    (case x_BadWorldw_initw => k_is)
    (case rv_BadWorldw_initw => kernel_rfl)
    (case i_BadWorldw_initw => k_is)
    (case l_BadWorldw_initw => k_is)
    (case cd_BadWorldw_initw => k_is)
    (case kc_BadWorldw_initw => k_is)
    (case kv_BadWorldw_initw => rfl)
    (case kf_BadWorldw_initw => decide +kernel)
    (case cc_BadWorldw_initw => k_is)
    (case kp_BadWorldw_initw => k_is)
    (case ti_BadWorldw_initw => k_is)
    (case ic_BadWorldw_initw => k_is)
    (case sa_BadWorldw_initw => k_is)
    (case ty_BadWorldw_initw => k_is)
    (case ke_BadWorldw_initw => k_is)
    (case su_BadWorldw_initw => kernel_rfl)
    (case ve_BadWorldw_initw => k_is)
    (case mr_BadWorldw_initw => k_is)
    (case nf_BadWorld_index => k_is)
    (case m_NotARow => k_is)
    (case hg_NotARow => k_is)
    (case hk_NotARow => k_is)
    (case hs_NotARow => k_is)
    (case hd_NotARow => k_is)
    (case ha_NotARow => k_is)
    (case hm_NotARow => k_is)
    (case x_NotARoww_initw => k_is)
    (case rv_NotARoww_initw => kernel_rfl)
    (case i_NotARoww_initw => k_is)
    (case l_NotARoww_initw => k_is)
    (case cd_NotARoww_initw => k_is)
    (case kc_NotARoww_initw => k_is)
    (case kv_NotARoww_initw => rfl)
    (case kf_NotARoww_initw => decide +kernel)
    (case cc_NotARoww_initw => k_is)
    (case kp_NotARoww_initw => k_is)
    (case ti_NotARoww_initw => k_is)
    (case ic_NotARoww_initw => k_is)
    (case sa_NotARoww_initw => k_is)
    (case ty_NotARoww_initw => k_is)
    (case ke_NotARoww_initw => k_is)
    (case su_NotARoww_initw => kernel_rfl)
    (case ve_NotARoww_initw => k_is)
    (case mr_NotARoww_initw => k_is)
    (case nf_NotARow_index => k_is)
    (case m_NotAnAnswer => k_is)
    (case hg_NotAnAnswer => k_is)
    (case hk_NotAnAnswer => k_is)
    (case hs_NotAnAnswer => k_is)
    (case hd_NotAnAnswer => k_is)
    (case ha_NotAnAnswer => k_is)
    (case hm_NotAnAnswer => k_is)
    (case x_NotAnAnswerw_initw => k_is)
    (case rv_NotAnAnswerw_initw => kernel_rfl)
    (case i_NotAnAnswerw_initw => k_is)
    (case l_NotAnAnswerw_initw => k_is)
    (case cd_NotAnAnswerw_initw => k_is)
    (case kc_NotAnAnswerw_initw => k_is)
    (case kv_NotAnAnswerw_initw => rfl)
    (case kf_NotAnAnswerw_initw => decide +kernel)
    (case cc_NotAnAnswerw_initw => k_is)
    (case kp_NotAnAnswerw_initw => k_is)
    (case ti_NotAnAnswerw_initw => k_is)
    (case ic_NotAnAnswerw_initw => k_is)
    (case sa_NotAnAnswerw_initw => k_is)
    (case ty_NotAnAnswerw_initw => k_is)
    (case ke_NotAnAnswerw_initw => k_is)
    (case su_NotAnAnswerw_initw => kernel_rfl)
    (case ve_NotAnAnswerw_initw => k_is)
    (case mr_NotAnAnswerw_initw => k_is)
    (case nf_NotAnAnswer_setting => k_is)
    (case m_RowsApart => k_is)
    (case hg_RowsApart => k_is)
    (case hk_RowsApart => k_is)
    (case hs_RowsApart => k_is)
    (case hd_RowsApart => k_is)
    (case ha_RowsApart => k_is)
    (case hm_RowsApart => k_is)
    (case x_RowsApartw_initw => k_is)
    (case rv_RowsApartw_initw => kernel_rfl)
    (case i_RowsApartw_initw => k_is)
    (case l_RowsApartw_initw => k_is)
    (case cd_RowsApartw_initw => k_is)
    (case kc_RowsApartw_initw => k_is)
    (case kv_RowsApartw_initw => rfl)
    (case kf_RowsApartw_initw => decide +kernel)
    (case cc_RowsApartw_initw => k_is)
    (case kp_RowsApartw_initw => k_is)
    (case ti_RowsApartw_initw => k_is)
    (case ic_RowsApartw_initw => k_is)
    (case sa_RowsApartw_initw => k_is)
    (case ty_RowsApartw_initw => k_is)
    (case ke_RowsApartw_initw => k_is)
    (case su_RowsApartw_initw => kernel_rfl)
    (case ve_RowsApartw_initw => k_is)
    (case mr_RowsApartw_initw => k_is)
    (case m_TooFew => k_is)
    (case hg_TooFew => k_is)
    (case hk_TooFew => k_is)
    (case hs_TooFew => k_is)
    (case hd_TooFew => k_is)
    (case ha_TooFew => k_is)
    (case hm_TooFew => k_is)
    (case x_TooFeww_initw => k_is)
    (case rv_TooFeww_initw => kernel_rfl)
    (case i_TooFeww_initw => k_is)
    (case l_TooFeww_initw => k_is)
    (case cd_TooFeww_initw => k_is)
    (case kc_TooFeww_initw => k_is)
    (case kv_TooFeww_initw => rfl)
    (case kf_TooFeww_initw => decide +kernel)
    (case cc_TooFeww_initw => k_is)
    (case kp_TooFeww_initw => k_is)
    (case ti_TooFeww_initw => k_is)
    (case ic_TooFeww_initw => k_is)
    (case sa_TooFeww_initw => k_is)
    (case ty_TooFeww_initw => k_is)
    (case ke_TooFeww_initw => k_is)
    (case su_TooFeww_initw => kernel_rfl)
    (case ve_TooFeww_initw => k_is)
    (case mr_TooFeww_initw => k_is)
    (case nf_TooFew_needed => k_is)
    (case m_World => k_is)
    (case pg_World => k_is)
    (case hd_World => k_is)
    (case po_World => k_is)
    (case sa_World => k_is)
    (case ha_World => k_is)
    (case hm_World => k_is)
    (case na_World_size => k_is)
    (case m_Colours => k_is)
    (case pg_Colours => k_is)
    (case hd_Colours => k_is)
    (case po_Colours => k_is)
    (case sa_Colours => k_is)
    (case ha_Colours => k_is)
    (case hm_Colours => k_is)
    (case na_Colours_web => k_is)
    (case na_Colours_colours => k_is)
    (case na_Colours_size => k_is)
    (case m_Row => k_is)
    (case pg_Row => k_is)
    (case hd_Row => k_is)
    (case po_Row => k_is)
    (case sa_Row => k_is)
    (case ha_Row => k_is)
    (case hm_Row => k_is)
    (case na_Row_settings => k_is)
    (case m_Web => k_is)
    (case pg_Web => k_is)
    (case hd_Web => k_is)
    (case po_Web => k_is)
    (case sa_Web => k_is)
    (case ha_Web => k_is)
    (case hm_Web => k_is)
    (case na_Web_places => k_is)
    (case na_Web_ties => k_is)
    (case na_Web_near => k_is)
    (case m_with_value => k_is)
    (case l_with_value => k_is)
    (case c_with_value => k_is)
    (case k_with_value => k_is)
    (case me_Worldw_initw => k_is)
    (case l_Worldw_initw => k_is)
    (case c_Worldw_initw => k_is)
    (case k_Worldw_initw => k_is)
    (case fn_Worldw_initw => k_is)
    (case mk_World => k_is)
    (case kc_World => k_is)
    (case me_World_is_answer => k_is)
    (case l_World_is_answer => k_is)
    (case c_World_is_answer => k_is)
    (case k_World_is_answer => k_is)
    (case fn_World_is_answer => k_is)
    (case me_World_next_answers => k_is)
    (case l_World_next_answers => k_is)
    (case c_World_next_answers => k_is)
    (case k_World_next_answers => k_is)
    (case fn_World_next_answers => k_is)
    (case m_check_answer => k_is)
    (case l_check_answer => k_is)
    (case c_check_answer => k_is)
    (case k_check_answer => k_is)
    (case me_Coloursw_initw => k_is)
    (case fn_Coloursw_initw => k_is)
    (case mk_Colours => k_is)
    (case kc_Colours => k_is)
    (case l_Coloursw_initw => k_is)
    (case cd_Coloursw_initw => k_is)
    (case kd_Coloursw_initw => k_is)
    (case kv_Coloursw_initw => rfl)
    (case kf_Coloursw_initw => decide +kernel)
    (case cc_Coloursw_initw => k_is)
    (case kp_Coloursw_initw => k_is)
    (case ic_Coloursw_initw => k_is)
    (case su_Coloursw_initw => kernel_rfl)
    (case tb_Coloursw_initw => k_is)
    (case mr_Coloursw_initw => k_is)
    (case fi_Coloursw_initw => k_is)
    (case me_Colours_is_answer => k_is)
    (case l_Colours_is_answer => k_is)
    (case c_Colours_is_answer => k_is)
    (case k_Colours_is_answer => k_is)
    (case fn_Colours_is_answer => k_is)
    (case me_Colours_next_answers => k_is)
    (case l_Colours_next_answers => k_is)
    (case c_Colours_next_answers => k_is)
    (case k_Colours_next_answers => k_is)
    (case fn_Colours_next_answers => k_is)
    (case me_Roww_initw => k_is)
    (case l_Roww_initw => k_is)
    (case c_Roww_initw => k_is)
    (case k_Roww_initw => k_is)
    (case fn_Roww_initw => k_is)
    (case mk_Row => k_is)
    (case kc_Row => k_is)
    (case pa_Row_start => k_is)
    (case pr_Row_start => k_is)
    (case pt_Row_start => k_is)
    (case pk_Row_start => k_is)
    (case l_Row_start => k_is)
    (case c_Row_start => k_is)
    (case k_Row_start => k_is)
    (case pa_Row_goal => k_is)
    (case pr_Row_goal => k_is)
    (case pt_Row_goal => k_is)
    (case pk_Row_goal => k_is)
    (case l_Row_goal => k_is)
    (case c_Row_goal => k_is)
    (case k_Row_goal => k_is)
    (case pa_Row_steps => k_is)
    (case pr_Row_steps => k_is)
    (case pt_Row_steps => k_is)
    (case pk_Row_steps => k_is)
    (case l_Row_steps => k_is)
    (case c_Row_steps => k_is)
    (case k_Row_steps => k_is)
    (case me_Roww_addw => k_is)
    (case l_Roww_addw => k_is)
    (case c_Roww_addw => k_is)
    (case k_Roww_addw => k_is)
    (case fn_Roww_addw => k_is)
    (case sf_Row => k_is)
    (case me_Roww_iterw => k_is)
    (case l_Roww_iterw => k_is)
    (case c_Roww_iterw => k_is)
    (case k_Roww_iterw => k_is)
    (case fn_Roww_iterw => k_is)
    (case me_Webw_initw => k_is)
    (case l_Webw_initw => k_is)
    (case c_Webw_initw => k_is)
    (case k_Webw_initw => k_is)
    (case fn_Webw_initw => k_is)
    (case mk_Web => k_is)
    (case kc_Web => k_is)
    (case me_Web_tied => k_is)
    (case l_Web_tied => k_is)
    (case c_Web_tied => k_is)
    (case k_Web_tied => k_is)
    (case fn_Web_tied => k_is)
    (case m_most_beside => k_is)
    (case l_most_beside => k_is)
    (case c_most_beside => k_is)
    (case k_most_beside => k_is)
    (case m_spare_colour => k_is)
    (case l_spare_colour => k_is)
    (case c_spare_colour => k_is)
    (case k_spare_colour => k_is)
    (case m_lead_many => k_is)
    (case l_lead_many => k_is)
    (case c_lead_many => k_is)
    (case k_lead_many => k_is)
    (case m_frozen_pairs => k_is)
    (case l_frozen_pairs => k_is)
    (case c_frozen_pairs => k_is)
    (case k_frozen_pairs => k_is)
    (case m__law_cell => k_is)
    (case l_law_cell => k_is)
    (case c_law_cell => k_is)
    (case k_law_cell => k_is)
    (case m__law_draw => k_is)
    (case l_law_draw => k_is)
    (case c_law_draw => k_is)
    (case k_law_draw => k_is)
    (case m__law_int => k_is)
    (case l_law_int => k_is)
    (case c_law_int => k_is)
    (case k_law_int => k_is)
    (case m__law_tuple => k_is)
    (case l_law_tuple => k_is)
    (case c_law_tuple => k_is)
    (case k_law_tuple => k_is)
    (case m__law_beside => k_is)
    (case l_law_beside => k_is)
    (case c_law_beside => k_is)
    (case k_law_beside => k_is)
    (case m__law_ties => k_is)
    (case l_law_ties => k_is)
    (case c_law_ties => k_is)
    (case k_law_ties => k_is)
    (case m__law_colouring => k_is)
    (case l_law_colouring => k_is)
    (case c_law_colouring => k_is)
    (case k_law_colouring => k_is)
    (case m__law_put => k_is)
    (case l_law_put => k_is)
    (case c_law_put => k_is)
    (case k_law_put => k_is)
    (case m__law_spoilt => k_is)
    (case l_law_spoilt => k_is)
    (case c_law_spoilt => k_is)
    (case k_law_spoilt => k_is)
    (case m__law_coloured => k_is)
    (case l_law_coloured => k_is)
    (case c_law_coloured => k_is)
    (case k_law_coloured => k_is)
    (case m__law_row_stands => k_is)
    (case l_law_row_stands => k_is)
    (case c_law_row_stands => k_is)
    (case k_law_row_stands => k_is)
    (case m__law_refused => k_is)
    (case l_law_refused => k_is)
    (case c_law_refused => k_is)
    (case k_law_refused => k_is)
    (case m__law_pairs_refused => k_is)
    (case l_law_pairs_refused => k_is)
    (case c_law_pairs_refused => k_is)
    (case k_law_pairs_refused => k_is)
    (case m__law_pairs_stand => k_is)
    (case l_law_pairs_stand => k_is)
    (case c_law_pairs_stand => k_is)
    (case k_law_pairs_stand => k_is)
    (case m_law => k_is)
    (case l_law => k_is)
    (case c_law => k_is)
    (case k_law => k_is)
    (case cr1_Colours => k_is)
    (case cr2_Colours => k_is)
    (case cv_Colours_MOST_PLACES => k_is)
    (case cv_Colours_MOST_COLOURS => k_is)
    (case hcn => k_is)
    (case hct => k_is)
    (case hop => k_is)
    (case htop => decide +kernel)
    (case kit_Web_Web => kernel_rfl)
    (case kit_Row_Row => kernel_rfl)
    (case kit_BadWorld_TooFew => kernel_rfl)
    (case kit_BadWorld_NotAnAnswer => kernel_rfl)
    (case kit_BadWorld_StepError => kernel_rfl)
    (case kit_BadWorld_ValueError => kernel_rfl)
    (case exm_BadWorld_BadWorld => kernel_rfl)
    (case exm_TooFew_BadWorld => kernel_rfl)
    (case exm_TooFew_TooFew => kernel_rfl)
    (case kit_TooFew_NotAnAnswer => kernel_rfl)
    (case kit_TooFew_StepError => kernel_rfl)
    (case kit_TooFew_ValueError => kernel_rfl)
    (case exm_NotAnAnswer_BadWorld => kernel_rfl)
    (case exm_NotAnAnswer_TooFew => kernel_rfl)
    (case exm_NotAnAnswer_NotAnAnswer => kernel_rfl)
    (case kit_NotAnAnswer_StepError => kernel_rfl)
    (case kit_NotAnAnswer_ValueError => kernel_rfl)

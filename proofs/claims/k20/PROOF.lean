import PyProof.Rows.All
import Wide.All
import OpenK.AllK
import Wide.FinOn
import HandS.ForMost
import HandS.Lambda
import HandS.EndTab
import HandS.Exc
import HandS.ExcInit
import HandS.WordsExc
import HandS.CallSlots
import HandS.ExcField
import HandS.Zip
import HandS.RevRange
import HandS.Conv
import HandS.Flow
import HandS.Style
import HandS.TupLe
import HandS.TupAny
import HandS.TupMul
import HandS.DictTup
import HandS.WideMore
import HandS.Deep
import HandS.Strs
import HandS.SortInts
import KE.SortData
import KE.DataCmp
import KE.DataMinMax
import KE.DataAny
import KE.DataIsa
import KE.KTupSum
import HandS.Walk
import HandS.Iter
import KE.DatumOrd
import KE.GoesMore
import KE.GoesZip
import KE.GoesEnum
import PyProof.Draws
import HandS.SetFor
import KE.KNestM
import PySem.Challenge.RW_logsawn_k20_whole_felled_trees
set_option Elab.async false
set_option linter.all false
set_option maxRecDepth 100000
set_option maxHeartbeats 4000000
/-! Ev: pure data as values of the model; what stands for what -/
namespace Ev
open PySem PySem.Spec PyProof.Rows L2

/-- the mark of the law's row, the one thing that is handed on by reference -/
def rowD : PyData := .dict [(.none, .none)]
def keyD : Key → PyData
  | .inl i => .int i
  | .inr x => .str x
def keyT (k : List Key) : PyData := .tuple (k.map keyD)

def notTbl (o : HO) : Prop := ∀ ps, o ≠ .tbl ps
def hide (H : Hp) (S : List Addr) : Hp := fun a => if a ∈ S then none else H a
def Sub (H H' : Hp) : Prop := ∀ b o, H b = some o → notTbl o → H' b = some o
theorem Sub.refl (H : Hp) : Sub H H := fun _ _ h _ => h
theorem Sub.trans {H H1 H2 : Hp} (a : Sub H H1) (b : Sub H1 H2) : Sub H H2 := fun x o h n => b x o (a x o h n) n
theorem hide_in {H : Hp} {S : List Addr} {a : Addr} (h : a ∈ S) : hide H S a = none := if_pos h
theorem hide_out {H : Hp} {S : List Addr} {a : Addr} (h : a ∉ S) : hide H S a = H a := if_neg h
theorem of_hide {H : Hp} {S : List Addr} {a : Addr} {o : HO} (h : hide H S a = some o) : a ∉ S ∧ H a = some o := by
  by_cases c : a ∈ S
  · rw [hide_in c] at h; cases h
  · rw [hide_out c] at h; exact ⟨c, h⟩
theorem hide_sub {H : Hp} {S : List Addr} : Sub (hide H S) H := fun b o h _ => (of_hide h).2
theorem hide_more {H : Hp} {S S' : List Addr} (h : ∀ b ∈ S', b ∈ S) : Sub (hide H S) (hide H S') := fun b o e _ => by
  obtain ⟨n, e⟩ := of_hide e
  rw [hide_out fun z => n (h b z)]
  exact e
theorem nt_lst {xs : List V} : notTbl (.lst xs) := fun _ z => by cases z
theorem nt_tup {xs : List V} : notTbl (.tup xs) := fun _ z => by cases z
theorem nt_dK {xs : List (Key × V)} : notTbl (.dK xs) := fun _ z => by cases z
theorem nt_dT {xs : List (List Key × V)} : notTbl (.dT xs) := fun _ z => by cases z
theorem nt_frz {o : Obj} {u : HO} : notTbl (.frz o u) := fun _ z => by cases z
theorem nt_xd {fs : List (Str × V)} : notTbl (.xd fs) := fun _ z => by cases z
theorem Sub.rd {H H' : Hp} {a : Addr} {u : HO} (s : Sub H H') (n : notTbl u) (h : Rd H a u) : Rd H' a u := by
  rcases h with h | ⟨o, h⟩
  · exact .inl (s _ _ h n)
  · exact .inr ⟨o, s _ _ h nt_frz⟩
theorem Sub.sqL {K : PySem.W.Frag} {H H' : Hp} {a : Addr} {xs : List V} (s : Sub H H') (h : SqL K H a xs) : SqL K H' a xs := by
  rcases h with h | h
  · exact .inl (s.rd nt_lst h)
  · exact .inr h
theorem Sub.sqT {K : PySem.W.Frag} {H H' : Hp} {a : Addr} {xs : List V} (s : Sub H H') (h : SqT K H a xs) : SqT K H' a xs := by
  rcases h with h | h
  · exact .inl (s.rd nt_tup h)
  · exact .inr h

mutual
/-- the value v over the heap H is the datum -/
inductive Rep (K : PySem.W.Frag) (a0 : Addr) (H : Hp) : V → PyData → Prop
  | non : Rep K a0 H .non .none
  | bl (b : Bool) : Rep K a0 H (.bl b) (.bool b)
  | int (i : Int) : Rep K a0 H (.int i) (.int i)
  | str (x : Str) : Rep K a0 H (.str x) (.str x)
  | lst {a : Addr} {xs : List V} {ds : List PyData} : H a = some (.lst xs) → RepA K a0 H xs ds → Rep K a0 H (.ref a) (.list ds)
  | tup {a : Addr} {xs : List V} {ds : List PyData} : H a = some (.tup xs) → RepA K a0 H xs ds → Rep K a0 H (.ref a) (.tuple ds)
  | dK {a : Addr} {kvs : List (Key × V)} {ps : List (PyData × PyData)} : Rd H a (.dK kvs) → RepK K a0 H kvs ps → Rep K a0 H (.ref a) (.dict ps)
  | dT {a : Addr} {kvs : List (List Key × V)} {ps : List (PyData × PyData)} : Rd H a (.dT kvs) → RepT K a0 H kvs ps → Rep K a0 H (.ref a) (.dict ps)
  | row : Rep K a0 H (.ref a0) rowD
inductive RepA (K : PySem.W.Frag) (a0 : Addr) (H : Hp) : List V → List PyData → Prop
  | nil : RepA K a0 H [] []
  | cons {v : V} {vs : List V} {d : PyData} {ds : List PyData} : Rep K a0 H v d → RepA K a0 H vs ds → RepA K a0 H (v :: vs) (d :: ds)
inductive RepK (K : PySem.W.Frag) (a0 : Addr) (H : Hp) : List (Key × V) → List (PyData × PyData) → Prop
  | nil : RepK K a0 H [] []
  | cons {k : Key} {v : V} {vs : List (Key × V)} {d : PyData} {ds : List (PyData × PyData)} : Rep K a0 H v d → RepK K a0 H vs ds → RepK K a0 H ((k, v) :: vs) ((keyD k, d) :: ds)
inductive RepT (K : PySem.W.Frag) (a0 : Addr) (H : Hp) : List (List Key × V) → List (PyData × PyData) → Prop
  | nil : RepT K a0 H [] []
  | cons {k : List Key} {v : V} {vs : List (List Key × V)} {d : PyData} {ds : List (PyData × PyData)} : Rep K a0 H v d → RepT K a0 H vs ds → RepT K a0 H ((k, v) :: vs) ((keyT k, d) :: ds)
end

section
variable {K : PySem.W.Frag} {a0 : Addr} {H H' : Hp}
mutual
theorem Rep.mono (s : Sub H H') {v : V} {d : PyData} (r : Rep K a0 H v d) : Rep K a0 H' v d := by
  cases r with
  | non => exact .non
  | bl b => exact .bl b
  | int i => exact .int i
  | str x => exact .str x
  | lst h r => exact .lst (s _ _ h nt_lst) (RepA.mono s r)
  | tup h r => exact .tup (s _ _ h nt_tup) (RepA.mono s r)
  | dK h r => exact .dK (s.rd nt_dK h) (RepK.mono s r)
  | dT h r => exact .dT (s.rd nt_dT h) (RepT.mono s r)
  | row => exact .row
theorem RepA.mono (s : Sub H H') {v : List V} {d : List PyData} (r : RepA K a0 H v d) : RepA K a0 H' v d := by
  cases r with
  | nil => exact .nil
  | cons h r => exact .cons (Rep.mono s h) (RepA.mono s r)
theorem RepK.mono (s : Sub H H') {v : List (Key × V)} {d : List (PyData × PyData)} (r : RepK K a0 H v d) : RepK K a0 H' v d := by
  cases r with
  | nil => exact .nil
  | cons h r => exact .cons (Rep.mono s h) (RepK.mono s r)
theorem RepT.mono (s : Sub H H') {v : List (List Key × V)} {d : List (PyData × PyData)} (r : RepT K a0 H v d) : RepT K a0 H' v d := by
  cases r with
  | nil => exact .nil
  | cons h r => exact .cons (Rep.mono s h) (RepT.mono s r)
end
theorem RepA.length : ∀ {v : List V} {d : List PyData}, RepA K a0 H v d → v.length = d.length
  | _, _, .nil => rfl
  | _, _, .cons _ r => by rw [List.length_cons, List.length_cons, RepA.length r]
theorem RepA.append : ∀ {v v' : List V} {d d' : List PyData}, RepA K a0 H v d → RepA K a0 H v' d' → RepA K a0 H (v ++ v') (d ++ d')
  | _, _, _, _, .nil, s => s
  | _, _, _, _, .cons h r, s => .cons h (RepA.append r s)
theorem RepA.get : ∀ {v : List V} {d : List PyData} {i : Nat} {x : PyData}, RepA K a0 H v d → d[i]? = some x → ∃ u, v[i]? = some u ∧ Rep K a0 H u x
  | _, _, _, _, .nil, e => by simp at e
  | _, _, 0, _, .cons h _, e => by
    simp at e
    subst e
    exact ⟨_, rfl, h⟩
  | _, _, i + 1, _, .cons _ r, e => by
    obtain ⟨u, e1, e2⟩ := RepA.get (i := i) r (by simpa using e)
    exact ⟨u, by simpa using e1, e2⟩
theorem RepA.getV : ∀ {v : List V} {d : List PyData} {i : Nat} {u : V}, RepA K a0 H v d → v[i]? = some u → ∃ x, d[i]? = some x ∧ Rep K a0 H u x
  | _, _, _, _, .nil, e => by simp at e
  | _, _, 0, _, .cons h _, e => by
    simp at e
    subst e
    exact ⟨_, rfl, h⟩
  | _, _, i + 1, _, .cons _ r, e => by
    obtain ⟨u, e1, e2⟩ := RepA.getV (i := i) r (by simpa using e)
    exact ⟨u, by simpa using e1, e2⟩
theorem RepA.take : ∀ {v : List V} {d : List PyData} (n : Nat), RepA K a0 H v d → RepA K a0 H (v.take n) (d.take n)
  | _, _, 0, _ => .nil
  | _, _, _ + 1, .nil => .nil
  | _, _, n + 1, .cons h r => .cons h (RepA.take n r)
theorem RepA.drop : ∀ {v : List V} {d : List PyData} (n : Nat), RepA K a0 H v d → RepA K a0 H (v.drop n) (d.drop n)
  | _, _, 0, r => r
  | _, _, _ + 1, .nil => .nil
  | _, _, n + 1, .cons h r => RepA.drop n r
theorem RepA.set {u : V} {x : PyData} (h : Rep K a0 H u x) : ∀ {v : List V} {d : List PyData} (n : Nat), RepA K a0 H v d → RepA K a0 H (v.set n u) (d.set n x)
  | _, _, _, .nil => .nil
  | _, _, 0, .cons _ r => .cons h r
  | _, _, n + 1, .cons h' r => .cons h' (RepA.set h n r)
theorem RepA.eraseIdx : ∀ {v : List V} {d : List PyData} (n : Nat), RepA K a0 H v d → RepA K a0 H (v.eraseIdx n) (d.eraseIdx n)
  | _, _, _, .nil => .nil
  | _, _, 0, .cons _ r => r
  | _, _, n + 1, .cons h' r => .cons h' (RepA.eraseIdx n r)
theorem RepA.dropLast : ∀ {v : List V} {d : List PyData}, RepA K a0 H v d → RepA K a0 H v.dropLast d.dropLast
  | _, _, .nil => .nil
  | _, _, .cons h .nil => .nil
  | _, _, .cons h (.cons h' r) => .cons h (RepA.dropLast (.cons h' r))
theorem RepA.flat : ∀ (n : Nat) {v : List V} {d : List PyData}, RepA K a0 H v d → RepA K a0 H (List.replicate n v).flatten (List.replicate n d).flatten
  | 0, _, _, _ => .nil
  | n + 1, _, _, r => by
    rw [List.replicate_succ, List.replicate_succ, List.flatten_cons, List.flatten_cons]
    exact RepA.append r (RepA.flat n r)
theorem RepA.ints : ∀ (ns : List Int), RepA K a0 H (ns.map V.int) (ns.map PyData.int)
  | [] => .nil
  | n :: r => .cons (.int n) (RepA.ints r)
theorem RepA.atI {v : List V} {d : List PyData} {i : Int} {x : PyData} (r : RepA K a0 H v d) (h : atI d i = some x) : ∃ u, L2.atI v i = some u ∧ Rep K a0 H u x := by
  unfold L2.atI at h ⊢
  rw [r.length]
  cases e : ixN d.length i with
  | none => rw [e] at h; cases h
  | some j =>
    rw [e] at h
    exact r.get h
end

/-! ### what stands for a datum -/
section
variable {K : PySem.W.Frag} {a0 : Addr} {H : Hp} {v : V}
theorem Rep.int_inv {i : Int} (r : Rep K a0 H v (.int i)) : v = .int i := by cases r; rfl
theorem Rep.bool_inv {b : Bool} (r : Rep K a0 H v (.bool b)) : v = .bl b := by cases r; rfl
theorem Rep.str_inv {x : Str} (r : Rep K a0 H v (.str x)) : v = .str x := by cases r; rfl
theorem Rep.none_inv (r : Rep K a0 H v .none) : v = .non := by cases r; rfl
theorem Rep.list_inv {ds : List PyData} (r : Rep K a0 H v (.list ds)) : ∃ a xs, v = .ref a ∧ H a = some (.lst xs) ∧ RepA K a0 H xs ds := by
  cases r with
  | lst h r => exact ⟨_, _, rfl, h, r⟩
theorem Rep.tup_inv {ds : List PyData} (r : Rep K a0 H v (.tuple ds)) : ∃ a xs, v = .ref a ∧ H a = some (.tup xs) ∧ RepA K a0 H xs ds := by
  cases r with
  | tup h r => exact ⟨_, _, rfl, h, r⟩
theorem Rep.dict_inv {ps : List (PyData × PyData)} (r : Rep K a0 H v (.dict ps)) : ∃ a, v = .ref a ∧ ((∃ kvs, Rd H a (.dK kvs) ∧ RepK K a0 H kvs ps) ∨ (∃ kvs, Rd H a (.dT kvs) ∧ RepT K a0 H kvs ps) ∨ (a = a0 ∧ ps = [(.none, .none)])) := by
  generalize e : PyData.dict ps = d at r
  cases r with
  | dK h r => cases e; exact ⟨_, rfl, .inl ⟨_, h, r⟩⟩
  | dT h r => cases e; exact ⟨_, rfl, .inr (.inl ⟨_, h, r⟩)⟩
  | row => cases e; exact ⟨_, rfl, .inr (.inr ⟨rfl, rfl⟩)⟩
  | _ => cases e
end

/-! ### pure data: no list, no dict within -/
mutual
def pureD : PyData → Bool
  | .none => true
  | .bool _ => true
  | .int _ => true
  | .str _ => true
  | .tuple ds => pureA ds
  | .list _ => false
  | .dict _ => false
def pureA : List PyData → Bool
  | [] => true
  | d :: ds => pureD d && pureA ds
end
mutual
/-- data without dicts -/
def dataD : PyData → Bool
  | .none => true
  | .bool _ => true
  | .int _ => true
  | .str _ => true
  | .tuple ds => dataA ds
  | .list ds => dataA ds
  | .dict _ => false
def dataA : List PyData → Bool
  | [] => true
  | d :: ds => dataD d && dataA ds
end
section
variable {K : PySem.W.Frag} {a0 : Addr} {H : Hp}
mutual
theorem Rep.dp {v : V} {d : PyData} (r : Rep K a0 H v d) (h : dataD d = true) : Dp K H v d := by
  cases r with
  | non => exact .non
  | bl b => exact .bl b
  | int i => exact .int i
  | str x => exact .str x
  | lst e r => exact .lst (.inl (.inl e)) (RepA.dp r (by simpa [dataD] using h))
  | tup e r => exact .tup (.inl (.inl e)) (RepA.dp r (by simpa [dataD] using h))
  | dK e r => simp [dataD] at h
  | dT e r => simp [dataD] at h
  | row => simp [dataD, rowD] at h
theorem RepA.dp {v : List V} {d : List PyData} (r : RepA K a0 H v d) (h : dataA d = true) : DpAll K H v d := by
  cases r with
  | nil => exact .nil
  | cons e r =>
    simp only [dataA, Bool.and_eq_true] at h
    exact .cons (Rep.dp e h.1) (RepA.dp r h.2)
end
mutual
theorem Rep.pure {S S' : List Addr} (hS : ∀ b ∈ S', ∀ o, H b = some o → ∀ xs, o ≠ .tup xs) {v : V} {d : PyData} (r : Rep K a0 (hide H S) v d) (h : pureD d = true) : Rep K a0 (hide H (S' ++ S)) v d := by
  cases r with
  | non => exact .non
  | bl b => exact .bl b
  | int i => exact .int i
  | str x => exact .str x
  | lst e r => simp [pureD] at h
  | @tup a xs _ e r =>
    refine .tup ?_ (RepA.pure hS r (by simpa [pureD] using h))
    obtain ⟨n, e⟩ := of_hide e
    rw [hide_out ?_]
    · exact e
    · intro z
      rcases List.mem_append.mp z with z | z
      · exact hS a z _ e _ rfl
      · exact n z
  | dK e r => simp [pureD] at h
  | dT e r => simp [pureD] at h
  | row => simp [pureD, rowD] at h
theorem RepA.pure {S S' : List Addr} (hS : ∀ b ∈ S', ∀ o, H b = some o → ∀ xs, o ≠ .tup xs) {v : List V} {d : List PyData} (r : RepA K a0 (hide H S) v d) (h : pureA d = true) : RepA K a0 (hide H (S' ++ S)) v d := by
  cases r with
  | nil => exact .nil
  | cons e r =>
    simp only [pureA, Bool.and_eq_true] at h
    exact .cons (Rep.pure hS e h.1) (RepA.pure hS r h.2)
end
end

/-! ### the evaluator's answers -/
/-- the law's row: its script, its place, its mixed number, its digits -/
structure Row where
  ns : List Int
  i : Int
  m : Int
  c : Int
inductive Res (α : Type) where
  | ok (a : α) (R : Row)
  | exc (nm : Str) (R : Row)
  | stuck
def Res.bind {α β : Type} (r : Res α) (f : α → Row → Res β) : Res β := match r with
  | .ok a R => f a R
  | .exc nm R => .exc nm R
  | .stuck => .stuck
def Res.map {α β : Type} (f : α → β) (r : Res α) : Res β := r.bind fun a R => .ok (f a) R
def ofO {α : Type} (o : Option α) (R : Row) : Res α := match o with
  | some a => .ok a R
  | none => .stuck
/-- an equation that the kernel does not unfold again -/
theorem eqr {α : Sort u} {a b : α} (h : a = b) : a = b := h
@[simp] theorem bind_ok {α β : Type} (a : α) (R : Row) (f : α → Row → Res β) : (Res.ok a R).bind f = f a R := eqr rfl
@[simp] theorem bind_exc {α β : Type} (nm : Str) (R : Row) (f : α → Row → Res β) : (Res.exc nm R).bind f = .exc nm R := eqr rfl
@[simp] theorem bind_stuck {α β : Type} (f : α → Row → Res β) : (Res.stuck).bind f = .stuck := eqr rfl
@[simp] theorem map_ok {α β : Type} (f : α → β) (a : α) (R : Row) : (Res.ok a R).map f = .ok (f a) R := eqr rfl
@[simp] theorem ofO_some {α : Type} (a : α) (R : Row) : ofO (some a) R = .ok a R := eqr rfl
def Ends {α : Type} (r : Res α) (ok : α → Row → Prop) (ex : Str → Row → Prop) : Prop := match r with
  | .ok a R => ok a R
  | .exc nm R => ex nm R
  | .stuck => False
theorem Ends.mono {α : Type} {r : Res α} {ok ok' : α → Row → Prop} {ex ex' : Str → Row → Prop} (h : Ends r ok ex) (h1 : ∀ a R, ok a R → ok' a R) (h2 : ∀ n R, ex n R → ex' n R) : Ends r ok' ex' := by
  cases r with
  | ok a R => exact h1 _ _ h
  | exc n R => exact h2 _ _ h
  | stuck => exact h
theorem Ends.bind {α β : Type} {r : Res α} {f : α → Row → Res β} {ok : β → Row → Prop} {ex : Str → Row → Prop} (h : Ends (r.bind f) ok ex) : Ends r (fun a R => Ends (f a R) ok ex) ex := by
  cases r with
  | ok a R => exact h
  | exc n R => exact h
  | stuck => exact h
theorem Ends.ofO {α : Type} {o : Option α} {R : Row} {ok : α → Row → Prop} {ex : Str → Row → Prop} (h : Ends (ofO o R) ok ex) : ∃ a, o = some a ∧ ok a R := by
  cases o with
  | none => exact h.elim
  | some a => exact ⟨a, rfl, h⟩

abbrev Env := List (Option PyData)
abbrev Den := Env → Row → Res PyData
abbrev DenL := Env → Row → Res (List PyData)
abbrev DenB := Env → Row → Res Bool

/-! ### the world at a point of the walk -/
structure Cfg where
  CB : Addr
  T : List (Addr × Str)
/-- a list that stands still -/
def SqF (K : PySem.W.Frag) (H : Hp) (a : Addr) (xs : List V) : Prop :=
  (∃ o, H a = some (.frz o (.lst xs))) ∨
    ∃ (o : Obj) (its : Array Value) (n : Nat), K.lookup a = some o ∧ o.cls = .type "list" ∧ o.dict = none ∧ o.data = .seq its n ∧ its.size ≤ sizeLine ∧ Vals xs its.toList
structure Wd (K : PySem.W.Frag) (c : Cfg) (a0 : Addr) (S : List Addr) (H0 H : Hp) (R : Row) : Prop where
  a0S : a0 ∈ S
  sS : ∀ b ∈ S, ∃ o, H0 b = some o ∧ notTbl o
  gr : ∀ b o, b ≠ a0 → H0 b = some o → notTbl o → H b = some o
  row : ∃ sc, H a0 = some (.lst [.ref sc, .int R.i, .int R.m, .int R.c]) ∧ SqF K H sc (R.ns.map V.int)
  tabs : LamX.Tabs c.T H
section
variable {K : PySem.W.Frag} {c : Cfg} {a0 : Addr} {S : List Addr} {H0 H H1 : Hp} {R R1 : Row}
theorem Wd.here (w : Wd K c a0 S H0 H R) : Wd K c a0 S H H R where
  a0S := w.a0S
  sS := fun b hb => by
    by_cases e : b = a0
    · subst e
      obtain ⟨sc, h, _⟩ := w.row
      exact ⟨_, h, nt_lst⟩
    · obtain ⟨o, h, n⟩ := w.sS b hb
      exact ⟨o, w.gr b o e h n, n⟩
  gr := fun _ _ _ h _ => h
  row := w.row
  tabs := w.tabs
theorem Wd.trans (w : Wd K c a0 S H0 H R) (w1 : Wd K c a0 S H H1 R1) : Wd K c a0 S H0 H1 R1 where
  a0S := w.a0S
  sS := w.sS
  gr := fun b o e h n => w1.gr b o e (w.gr b o e h n) n
  row := w1.row
  tabs := w1.tabs
theorem Wd.sub (w : Wd K c a0 S H H1 R) : Sub (hide H S) (hide H1 S) := fun b o h n => by
  obtain ⟨nb, h⟩ := of_hide h
  rw [hide_out nb]
  exact w.gr b o (fun z => nb (z ▸ w.a0S)) h n
theorem SqF.sqL {a : Addr} {xs : List V} (h : SqF K H a xs) : SqL K H a xs := by
  rcases h with ⟨o, h⟩ | h
  · exact .inl (.inr ⟨o, h⟩)
  · exact .inr h
theorem SqF.mono {a : Addr} {xs : List V} (s : ∀ o u, H a = some (.frz o u) → H1 a = some (.frz o u)) (h : SqF K H a xs) : SqF K H1 a xs := by
  rcases h with ⟨o, h⟩ | h
  · exact .inl ⟨o, s _ _ h⟩
  · exact .inr h
/-- a new object is laid -/
theorem Wd.new (w : Wd K c a0 S H H R) {p : Addr} {o : HO} (hp : H p = none) : Wd K c a0 S H (upd H p o) R where
  a0S := w.a0S
  sS := w.sS
  gr := fun b u _ h _ => by
    rw [upd_ne (ne_of_none h hp)]
    exact h
  row := by
    obtain ⟨sc, h, f⟩ := w.row
    refine ⟨sc, ?_, f.mono fun o u e => ?_⟩
    · rw [upd_ne (ne_of_none h hp)]
      exact h
    · rw [upd_ne (ne_of_none e hp)]
      exact e
  tabs := w.tabs.ext fun b u h => by
    rw [upd_ne (ne_of_none h hp)]
    exact h
theorem Wd.notS (w : Wd K c a0 S H H R) {p : Addr} (hp : H p = none) : p ∉ S := fun z => by
  obtain ⟨o, h, _⟩ := w.sS p z
  rw [hp] at h
  cases h
theorem hide_upd_out {p : Addr} {o : HO} (hp : p ∉ S) : hide (upd H p o) S p = some o := by
  rw [hide_out hp, upd_same]
end
theorem Wd.fr {K : PySem.W.Frag} {c : Cfg} {a0 : Addr} {S : List Addr} {H H1 : Hp} {R : Row} (w : Wd K c a0 S H H1 R) {p : Addr} (hp : H1 p = none) : ∀ o, H p = some o → ¬ notTbl o := fun o e n => by
  by_cases ea : p = a0
  · obtain ⟨sc, h1, _⟩ := w.row
    rw [ea, h1] at hp
    cases hp
  · rw [w.gr p o ea e n] at hp
    cases hp
/-- the slots hold the environment -/
def EnvR (K : PySem.W.Frag) (a0 : Addr) (H : Hp) (ρ : Env) (σ : L2.St) : Prop := ρ.length = σ.length ∧ ∀ (i : Nat) (d : PyData), ρ[i]? = some (some d) → ∃ v, σ[i]? = some (some v) ∧ Rep K a0 H v d
theorem EnvR.mono {K : PySem.W.Frag} {a0 : Addr} {H H' : Hp} {ρ : Env} {σ : L2.St} (e : EnvR K a0 H ρ σ) (s : Sub H H') : EnvR K a0 H' ρ σ := ⟨e.1, fun i d h => by
  obtain ⟨v, h1, h2⟩ := e.2 i d h
  exact ⟨v, h1, h2.mono s⟩⟩

/-! ### readings by data -/
section
variable (K : PySem.W.Frag) (c : Cfg) (E : XK)
def Ex (a0 : Addr) (S : List Addr) (H : Hp) (nm : Str) (R' : Row) : Prop :=
  ∀ dx H', Wd K c a0 S H H' R' → H' dx = some (.xd [("name", .str nm)]) → E (.ref c.CB) (some dx) H'
def tD (den : Den) : TE := fun σ H Q => ∃ a0 S ρ R, Wd K c a0 S H H R ∧ EnvR K a0 (hide H S) ρ σ ∧
  Ends (den ρ R) (fun d R' => ∀ v H', Wd K c a0 S H H' R' → Rep K a0 (hide H' S) v d → Q v H') (Ex K c E a0 S H)
def tDL (den : DenL) : TA := fun σ H Q => ∃ a0 S ρ R, Wd K c a0 S H H R ∧ EnvR K a0 (hide H S) ρ σ ∧
  Ends (den ρ R) (fun ds R' => ∀ vs H', Wd K c a0 S H H' R' → RepA K a0 (hide H' S) vs ds → Q vs H') (Ex K c E a0 S H)
def tDB (den : DenB) : TT := fun σ H Q => ∃ a0 S ρ R, Wd K c a0 S H H R ∧ EnvR K a0 (hide H S) ρ σ ∧
  Ends (den ρ R) (fun b R' => ∀ H', Wd K c a0 S H H' R' → Q b H') (Ex K c E a0 S H)
/-- no object that stays -/
def Fr (H : Hp) (p : Addr) : Prop := ∀ o, H p = some o → ¬ notTbl o
/-- a new list: its address is new -/
def tDN (den : DenL) : TE := fun σ H Q => ∃ a0 S ρ R, Wd K c a0 S H H R ∧ EnvR K a0 (hide H S) ρ σ ∧
  Ends (den ρ R) (fun ds R' => ∀ p vs H', Fr H p → Wd K c a0 S H H' R' → H' p = some (.lst vs) → RepA K a0 (hide H' (p :: S)) vs ds → Q (.ref p) H') (Ex K c E a0 S H)
end
def DE (X : Cx) (c : Cfg) (E : XK) (e : Expr) (den : Den) : Prop := PE X e (tD X.K c E den)
def DEs (X : Cx) (c : Cfg) (E : XK) (es : List Expr) (den : DenL) : Prop := PA X es (tDL X.K c E den)
def DT (X : Cx) (c : Cfg) (E : XK) (e : Expr) (den : DenB) : Prop := PT X e (tDB X.K c E den)
def DN (X : Cx) (c : Cfg) (E : XK) (e : Expr) (den : DenL) : Prop := PE X e (tDN X.K c E den)

theorem PE.imp {X : Cx} {e : Expr} {t t' : TE} (h : PE X e t) (m : ∀ σ H Q, t' σ H Q → t σ H Q) : PE X e t' := ⟨fun pins s σ H Q I q => h.run pins s σ H Q I (m σ H Q q)⟩
theorem PA.imp {X : Cx} {e : List Expr} {t t' : TA} (h : PA X e t) (m : ∀ σ H Q, t' σ H Q → t σ H Q) : PA X e t' := ⟨fun pos pins s σ H Q I q => h.run pos pins s σ H Q I (m σ H Q q)⟩
theorem PT.imp {X : Cx} {e : Expr} {t t' : TT} (h : PT X e t) (m : ∀ σ H Q, t' σ H Q → t σ H Q) : PT X e t' := ⟨fun pins s σ H Q I q => h.run pins s σ H Q I (m σ H Q q)⟩
theorem PS.imp {X : Cx} {e : Stmt} {t t' : TS} (h : PS X e t) (m : ∀ D σ H, t' D σ H → t D σ H) : PS X e t' := ⟨fun pins s σ H D I q => h.run pins s σ H D I (m D σ H q)⟩
theorem PSs.imp {X : Cx} {e : List Stmt} {t t' : TS} (h : PSs X e t) (m : ∀ D σ H, t' D σ H → t D σ H) : PSs X e t' := ⟨fun pins s σ H D I q => h.run pins s σ H D I (m D σ H q)⟩
theorem PE.or {X : Cx} {e : Expr} {t t' : TE} (h : PE X e t) (h' : PE X e t') : PE X e (fun σ H Q => t σ H Q ∨ t' σ H Q) := ⟨fun pins s σ H Q I q => q.elim (h.run pins s σ H Q I) (h'.run pins s σ H Q I)⟩

section
variable {K : PySem.W.Frag} {c : Cfg} {E : XK} {a0 : Addr} {S : List Addr} {H H1 : Hp} {R R1 : Row} {nm : Str}
theorem Ex.back (w : Wd K c a0 S H H1 R) (e : Ex K c E a0 S H nm R1) : Ex K c E a0 S H1 nm R1 := fun dx H' w' h => e dx H' (w.trans w') h
end
end Ev

/-! Ev: operations on pure data -/
namespace Ev
open PySem PySem.Spec PyProof.Rows L2

/-! ### shapes -/
def shp : Nat → PyData → Bool
  | 0, _ => false
  | n + 1, d => match d with
    | .none => true
    | .bool _ => true
    | .int _ => true
    | .str x => PyData.strOk x
    | .list xs => xs.all (shp n)
    | .tuple xs => xs.all (shp n)
    | .dict _ => false
theorem depthAll_le {n : Nat} : ∀ {xs : List PyData}, (∀ x ∈ xs, x.depth ≤ n) → PyData.depthAll xs ≤ n
  | [], _ => by simp [PyData.depthAll]
  | x :: xs, h => by
    have h1 := h x List.mem_cons_self
    have h2 := depthAll_le (xs := xs) fun y hy => h y (List.mem_cons_of_mem _ hy)
    simp only [PyData.depthAll]
    omega
theorem canAll : ∀ {xs : List PyData}, (∀ x ∈ xs, x.canLay0 = true) → PyData.canLayAll0 xs = true
  | [], _ => by simp [PyData.canLayAll0]
  | x :: xs, h => by
    have h1 := h x List.mem_cons_self
    have h2 := canAll (xs := xs) fun y hy => h y (List.mem_cons_of_mem _ hy)
    simp [PyData.canLayAll0, h1, h2]
theorem dataAll : ∀ {xs : List PyData}, (∀ x ∈ xs, dataD x = true) → dataA xs = true
  | [], _ => rfl
  | x :: xs, h => by
    have h1 := h x List.mem_cons_self
    have h2 := dataAll (xs := xs) fun y hy => h y (List.mem_cons_of_mem _ hy)
    simp [dataA, h1, h2]
theorem shp_facts : ∀ (n : Nat) (d : PyData), shp n d = true → d.canLay0 = true ∧ d.depth ≤ n ∧ dataD d = true
  | 0, _, h => by simp [shp] at h
  | n + 1, d, h => by
    cases d with
    | none => simp [PyData.canLay0, PyData.depth, dataD]
    | bool b => simp [PyData.canLay0, PyData.depth, dataD]
    | int i => simp [PyData.canLay0, PyData.depth, dataD]
    | str x =>
      have h' : PyData.strOk x = true := h
      simp [PyData.canLay0, PyData.depth, dataD, h']
    | list xs =>
      have h' : xs.all (shp n) = true := h
      rw [List.all_eq_true] at h'
      have f := fun x hx => shp_facts n x (h' x hx)
      refine ⟨?_, ?_, ?_⟩
      · simp only [PyData.canLay0]
        exact canAll fun x hx => (f x hx).1
      · have := depthAll_le fun x hx => (f x hx).2.1
        simp only [PyData.depth]
        omega
      · simp only [dataD]
        exact dataAll fun x hx => (f x hx).2.2
    | tuple xs =>
      have h' : xs.all (shp n) = true := h
      rw [List.all_eq_true] at h'
      have f := fun x hx => shp_facts n x (h' x hx)
      refine ⟨?_, ?_, ?_⟩
      · simp only [PyData.canLay0]
        exact canAll fun x hx => (f x hx).1
      · have := depthAll_le fun x hx => (f x hx).2.1
        simp only [PyData.depth]
        omega
      · simp only [dataD]
        exact dataAll fun x hx => (f x hx).2.2
    | dict _ => simp [shp] at h
theorem shp_shaped {n : Nat} {d : PyData} (h : shp n d = true) (hn : n ≤ 64) : SeqAt.shaped d = true := by
  obtain ⟨h1, h2, _⟩ := shp_facts n d h
  unfold SeqAt.shaped
  rw [h1, Bool.true_and]
  exact decide_eq_true (Nat.le_trans h2 hn)
theorem shp_data {n : Nat} {d : PyData} (h : shp n d = true) : dataD d = true := (shp_facts n d h).2.2
@[simp] theorem shp_int (n : Nat) (i : Int) : shp (n + 1) (.int i) = true := rfl
@[simp] theorem shp_bool (n : Nat) (i : Bool) : shp (n + 1) (.bool i) = true := rfl
@[simp] theorem shp_none (n : Nat) : shp (n + 1) .none = true := rfl
@[simp] theorem shp_list (n : Nat) (xs : List PyData) : shp (n + 1) (.list xs) = xs.all (shp n) := rfl
@[simp] theorem shp_tup (n : Nat) (xs : List PyData) : shp (n + 1) (.tuple xs) = xs.all (shp n) := rfl
@[simp] theorem shp_str (n : Nat) (x : Str) : shp (n + 1) (.str x) = PyData.strOk x := rfl

/-! ### kinds of data that can be compared -/
inductive Ty where
  | int | bool | str
  | tup (ts : List Ty)
  | seq (t : Ty)
  | lsq (t : Ty)
mutual
def hasTy : Ty → PyData → Bool
  | .int, .int _ => true
  | .bool, .bool _ => true
  | .str, .str x => PyData.strOk x
  | .tup ts, .tuple xs => hasTys ts xs
  | .seq t, .tuple xs => xs.all (hasTy t)
  | .lsq t, .list xs => xs.all (hasTy t)
  | _, _ => false
def hasTys : List Ty → List PyData → Bool
  | [], [] => true
  | t :: ts, x :: xs => hasTy t x && hasTys ts xs
  | _, _ => false
end
theorem alikeAll_of {p : PyData → Bool} (h : ∀ x y, p x = true → p y = true → PySem.W.alike x y = true) : ∀ (xs ys : List PyData), xs.all p = true → ys.all p = true → PySem.W.alikeAll xs ys = true
  | [], _, _, _ => by simp [PySem.W.alikeAll]
  | _ :: _, [], _, _ => by simp [PySem.W.alikeAll]
  | x :: xs, y :: ys, hx, hy => by
    rw [List.all_cons, Bool.and_eq_true] at hx hy
    simp [PySem.W.alikeAll, h x y hx.1 hy.1, alikeAll_of h xs ys hx.2 hy.2]
mutual
theorem hasTy_alike : ∀ (t : Ty) (x y : PyData), hasTy t x = true → hasTy t y = true → PySem.W.alike x y = true
  | .int, x, y, hx, hy => by cases x <;> simp [hasTy] at hx <;> cases y <;> simp [hasTy] at hy <;> rfl
  | .bool, x, y, hx, hy => by cases x <;> simp [hasTy] at hx <;> cases y <;> simp [hasTy] at hy <;> rfl
  | .str, x, y, hx, hy => by cases x <;> simp [hasTy] at hx <;> cases y <;> simp [hasTy] at hy <;> rfl
  | .tup ts, x, y, hx, hy => by
    cases x <;> simp only [hasTy, Bool.false_eq_true] at hx
    cases y <;> simp only [hasTy, Bool.false_eq_true] at hy
    simp only [PySem.W.alike]
    exact hasTys_alike ts _ _ hx hy
  | .seq t, x, y, hx, hy => by
    cases x <;> simp only [hasTy, Bool.false_eq_true] at hx
    cases y <;> simp only [hasTy, Bool.false_eq_true] at hy
    simp only [PySem.W.alike]
    exact alikeAll_of (fun a b => hasTy_alike t a b) _ _ hx hy
  | .lsq t, x, y, hx, hy => by
    cases x <;> simp only [hasTy, Bool.false_eq_true] at hx
    cases y <;> simp only [hasTy, Bool.false_eq_true] at hy
    simp only [PySem.W.alike]
    exact alikeAll_of (fun a b => hasTy_alike t a b) _ _ hx hy
theorem hasTys_alike : ∀ (ts : List Ty) (xs ys : List PyData), hasTys ts xs = true → hasTys ts ys = true → PySem.W.alikeAll xs ys = true
  | [], xs, ys, hx, hy => by
    cases xs <;> simp [hasTys] at hx
    cases ys <;> simp [hasTys] at hy
    rfl
  | t :: ts, xs, ys, hx, hy => by
    cases xs <;> simp only [hasTys, Bool.false_eq_true, Bool.and_eq_true] at hx
    cases ys <;> simp only [hasTys, Bool.false_eq_true, Bool.and_eq_true] at hy
    simp [PySem.W.alikeAll, hasTy_alike t _ _ hx.1 hy.1, hasTys_alike ts _ _ hx.2 hy.2]
end
theorem hasTy_nn {t : Ty} {x : PyData} (h : hasTy t x = true) : x ≠ .none := by
  intro e
  subst e
  cases t <;> simp [hasTy] at h

/-! ### what the operators give -/
def addD : PyData → PyData → Option PyData
  | .int a, .int b => some (.int (a + b))
  | .list xs, .list ys => if xs.length + ys.length ≤ sizeLine then some (.list (xs ++ ys)) else none
  | .tuple xs, .tuple ys => if xs.length + ys.length ≤ sizeLine then some (.tuple (xs ++ ys)) else none
  | .str x, .str y => if x.length + y.length ≤ sizeLine then some (.str (x ++ y)) else none
  | _, _ => none
def subD : PyData → PyData → Option PyData
  | .int a, .int b => some (.int (a - b))
  | _, _ => none
/-- a bound that is seen at once -/
def near (i : Int) : Bool := decide (-(2 ^ 64) < i) && decide (i < 2 ^ 64)
def mulD : PyData → PyData → Option PyData
  | .int a, .int b => if near a || near b then some (.int (a * b)) else none
  | .list xs, .int k => if -(2 ^ 63) ≤ k ∧ k < 2 ^ 63 ∧ xs.length * k.toNat ≤ sizeLine then some (.list (List.replicate k.toNat xs).flatten) else none
  | .tuple xs, .int k => if xs ≠ [] ∧ 1 ≤ k ∧ k ≤ 1000 ∧ xs.length ≤ 1000 then some (.tuple (List.replicate k.toNat xs).flatten) else none
  | _, _ => none
def fdivD : PyData → PyData → Option PyData
  | .int a, .int b => if 0 < b ∧ b < 1073741824 then some (.int (a / b)) else none
  | _, _ => none
def modD : PyData → PyData → Option PyData
  | .int a, .int b => if 0 < b then some (.int (a % b)) else none
  | _, _ => none
def powD : PyData → PyData → Option PyData
  | .int a, .int b => if 0 ≤ b ∧ b ≤ 1000000 ∧ a.natAbs < 2 ^ 64 then some (.int (a ^ b.toNat)) else none
  | _, _ => none
def shlD : PyData → PyData → Option PyData
  | .int a, .int b => if 0 ≤ b ∧ b ≤ 1000000 ∧ a.natAbs < 2 ^ 64 then some (.int (a * 2 ^ b.toNat)) else none
  | _, _ => none
def shrD : PyData → PyData → Option PyData
  | .int a, .int b => if 0 ≤ b then some (.int (a / 2 ^ b.toNat)) else none
  | _, _ => none
def andD : PyData → PyData → Option PyData
  | .int a, .int b => some (.int (Builtin.bitAnd a b))
  | _, _ => none
def orD : PyData → PyData → Option PyData
  | .int a, .int b => some (.int (Builtin.bitOr a b))
  | _, _ => none
def xorD : PyData → PyData → Option PyData
  | .int a, .int b => some (.int (Builtin.bitXor a b))
  | _, _ => none
def cmpD (f : Int → Int → Bool) : PyData → PyData → Option PyData
  | .int a, .int b => some (.bool (f a b))
  | _, _ => none
def eqD (d e : PyData) : Option PyData := if shp 9 d && shp 9 e then some (.bool (PyData.eqv d e)) else none
def neD (d e : PyData) : Option PyData := if shp 9 d && shp 9 e then some (.bool (!PyData.eqv d e)) else none
/-- a < b of data of one kind -/
def ltTy (t : Ty) (d e : PyData) : Option PyData := if hasTy t d && hasTy t e && shp 9 d && shp 9 e then some (.bool (PySem.W.dataLt d e)) else none
def leTy (t : Ty) (d e : PyData) : Option PyData := if hasTy t d && hasTy t e && shp 9 d && shp 9 e then some (.bool (!PySem.W.dataLt e d)) else none
def isD : PyData → PyData → Option PyData
  | .bool a, .bool b => some (.bool (decide (a = b)))
  | .none, .none => some (.bool true)
  | x, .none => some (.bool (match x with | .none => true | _ => false))
  | _, _ => none

end Ev

/-! Ev: a tuple once -/
namespace L2
open PySem PySem.Spec PyProof.Rows
theorem tuple_mul1 (l : Addr) (items : Array Value) (n : Nat) (dd : Option Addr) (sl : Array (Option Value)) (u : Tok) :
    Meets (Builtin.«tuple.__mul__» ⟨[.ref l, .int 1 u], []⟩) (fun _ R s => s.heap.get? l = some { cls := .type "tuple", dict := dd, data := .seq items n, slots := sl } ∧
      R (.ok (.ret (Value.ref l))) s) :=
  .of_wp fun prog w A R s h => by
    obtain ⟨hp, g, d, tk, os⟩ := s
    obtain ⟨hl, h⟩ := h
    have f1 := AutoSeq1.idx_int
    wp_walk using wpAny_loadPart' hl
    exact ⟨_, rfl, h⟩
def rRepT1 (K : PySem.W.Frag) : R2 := fun x y H Q => ∃ l xs, x = .ref l ∧ y = .int 1 ∧ SqT K H l xs ∧ Q (.ref l) H
theorem op_repT1 {X : Cx} : OpR X (binaryOp .Mult) (rRepT1 X.K) := by
  intro pins s σ H x y v u Q I rx ry h
  obtain ⟨l, xs, rfl, rfl, hT, q⟩ := h
  cases rx
  obtain ⟨t, rfl⟩ := ry
  obtain ⟨its, r, ⟨⟨cls, dd, data, sl⟩, ho, hc, n, hd⟩, hs⟩ := I.tuple hT
  simp only at hc hd
  subst hc hd
  refine wpAny_binaryOp_repeat_ref (T := "tuple") (U := "int") (by decide) ⟨_, ho, rfl⟩ (fun s' => typeIs_int s' 1 t) noFill_tuple_mul F.fills_int_mul F.slot_int_rmul repeat_tuple F.slot_int_index.lookup
    (call_meets F.slot_int_rmul (typeIs_int s 1 t) F.entry_int_rmul (F.args_int_rmul_2 _ _) (int_rmul_tuple 1 t l its.toArray n dd sl)
      ⟨ho, rfl, ⟨_, ho, rfl⟩, call_meets F.slot_tuple_mul ⟨_, ho, rfl⟩ F.entry_tuple_mul (F.args_tuple_mul_2 _ _) (tuple_mul1 l its.toArray n dd sl t) ⟨ho, ?_⟩⟩)
  exact ⟨.ref l, _, I, rfl, q⟩
end L2

/-! Ev: the operators' rules by data -/
namespace Ev
open PySem PySem.Spec PyProof.Rows L2

def rD (K : PySem.W.Frag) (c : Cfg) (f : PyData → PyData → Option PyData) : R2 := fun x y H Q => ∃ a0 S R dx dy d, Wd K c a0 S H H R ∧ Rep K a0 (hide H S) x dx ∧ Rep K a0 (hide H S) y dy ∧ f dx dy = some d ∧
  ∀ v H', Wd K c a0 S H H' R → Rep K a0 (hide H' S) v d → Q v H'
def OpD (X : Cx) (c : Cfg) (op : Operator) (f : PyData → PyData → Option PyData) : Prop := OpR X (binaryOp op) (rD X.K c f)
def CmD (X : Cx) (c : Cfg) (op : CmpOp) (f : PyData → PyData → Option PyData) : Prop := OpR X (compareOp op) (rD X.K c f)

section
variable {K : PySem.W.Frag} {c : Cfg} {a0 : Addr} {S : List Addr} {H H' : Hp} {R : Row}
theorem new_rep {p : Addr} {xs : List V} {ds : List PyData} (w : Wd K c a0 S H H R) (hp : H p = none) (r : RepA K a0 (hide H S) xs ds) : Rep K a0 (hide (upd H p (.lst xs)) S) (.ref p) (.list ds) := by
  have w1 := w.new (o := .lst xs) hp
  exact .lst (hide_upd_out (w.notS hp)) (r.mono w1.sub)
theorem new_repT {p : Addr} {xs : List V} {ds : List PyData} (w : Wd K c a0 S H H R) (hp : H p = none) (r : RepA K a0 (hide H S) xs ds) : Rep K a0 (hide (upd H p (.tup xs)) S) (.ref p) (.tuple ds) := by
  have w1 := w.new (o := .tup xs) hp
  exact .tup (hide_upd_out (w.notS hp)) (r.mono w1.sub)
/-- the strong form: the new object itself is hidden -/
theorem new_sub {p : Addr} {o : HO} (w : Wd K c a0 S H H R) (hp : H p = none) : Sub (hide H S) (hide (upd H p o) (p :: S)) := fun b u h n => by
  obtain ⟨nb, h⟩ := of_hide h
  have e : b ≠ p := ne_of_none h hp
  rw [hide_out (by simp [e, nb]), upd_ne e]
  exact h
end

section
variable {X : Cx} {c : Cfg}
theorem opD_add : OpD X c .Add addD := by
  rintro pins s σ H x y v u Q I rx ry ⟨a0, S, R, dx, dy, d, w, r1, r2, e, k⟩
  unfold addD at e
  split at e
  · cases e
    have := r1.int_inv; have := r2.int_inv; subst x; subst y
    exact op_add pins s σ H _ _ v u Q I rx ry ⟨_, _, rfl, rfl, k _ _ w (.int _)⟩
  · split at e
    · rename_i hl
      cases e
      obtain ⟨a, vs, rfl, q1, q2⟩ := r1.list_inv
      obtain ⟨b, us, rfl, p1, p2⟩ := r2.list_inv
      exact op_cat pins s σ H _ _ v u Q I rx ry ⟨a, b, vs, us, rfl, rfl, (of_hide q1).2, (of_hide p1).2, by rw [q2.length, p2.length]; exact hl, fun p hp => k _ _ (w.new hp) (new_rep w hp (q2.append p2))⟩
    · cases e
  · split at e
    · rename_i hl
      cases e
      obtain ⟨a, vs, rfl, q1, q2⟩ := r1.tup_inv
      obtain ⟨b, us, rfl, p1, p2⟩ := r2.tup_inv
      refine op_catA pins s σ H _ _ v u Q I rx ry ⟨a, b, vs, us, rfl, rfl, (.inl (.inl (of_hide q1).2)), (.inl (.inl (of_hide p1).2)), by rw [q2.length, p2.length]; exact hl, fun z => ?_, fun _ z => ?_, fun _ _ p hp => ?_⟩
      · subst z
        cases q2
        exact k _ _ w (.tup p1 p2)
      · subst z
        cases p2
        rw [List.append_nil] at k
        exact k _ _ w (.tup q1 q2)
      · exact k _ _ (w.new hp) (new_repT w hp (q2.append p2))
    · cases e
  · split at e
    · cases e
      have := r1.str_inv; have := r2.str_inv; subst x; subst y
      exact op_add_str pins s σ H _ _ v u Q I rx ry ⟨_, _, rfl, rfl, by assumption, k _ _ w (.str _)⟩
    · cases e
  · cases e
theorem opD_sub : OpD X c .Sub subD := by
  rintro pins s σ H x y v u Q I rx ry ⟨a0, S, R, dx, dy, d, w, r1, r2, e, k⟩
  unfold subD at e
  split at e
  · cases e
    have := r1.int_inv; have := r2.int_inv; subst x; subst y
    exact op_sub pins s σ H _ _ v u Q I rx ry ⟨_, _, rfl, rfl, k _ _ w (.int _)⟩
  · cases e
theorem near_iff {i : Int} : near i = true ↔ -(2 ^ 64) < i ∧ i < 2 ^ 64 := by
  unfold near
  rw [Bool.and_eq_true, decide_eq_true_eq, decide_eq_true_eq]
theorem opD_mul : OpD X c .Mult mulD := by
  rintro pins s σ H x y v u Q I rx ry ⟨a0, S, R, dx, dy, d, w, r1, r2, e, k⟩
  unfold mulD at e
  split at e
  · split at e
    · rename_i hn
      cases e
      have := r1.int_inv; have := r2.int_inv; subst x; subst y
      rw [Bool.or_eq_true, near_iff, near_iff] at hn
      exact op_mul pins s σ H _ _ v u Q I rx ry ⟨_, _, rfl, rfl, hn, k _ _ w (.int _)⟩
    · cases e
  · split at e
    · rename_i hl
      cases e
      obtain ⟨a, vs, rfl, q1, q2⟩ := r1.list_inv
      have := r2.int_inv; subst y
      refine op_rep pins s σ H _ _ v u Q I rx ry ⟨a, _, vs, rfl, rfl, (of_hide q1).2, hl.1, hl.2.1, by rw [q2.length]; exact hl.2.2, fun p hp => k _ _ (w.new hp) (new_rep w hp (q2.flat _))⟩
    · cases e
  · split at e
    · rename_i hl
      cases e
      obtain ⟨a, vs, rfl, q1, q2⟩ := r1.tup_inv
      have := r2.int_inv; subst y
      rename_i j
      by_cases h1 : j = 1
      · subst h1
        refine op_repT1 pins s σ H _ _ v u Q I rx ry ⟨a, vs, rfl, rfl, (.inl (.inl (of_hide q1).2)), k _ _ w ?_⟩
        have e1 : ∀ xs : List PyData, (List.replicate (1 : Int).toNat xs).flatten = xs := fun xs => by
          show (List.replicate 1 xs).flatten = xs
          simp
        rw [e1]
        exact .tup q1 q2
      · refine op_repT pins s σ H _ _ v u Q I rx ry ⟨a, _, vs, rfl, rfl, (.inl (.inl (of_hide q1).2)), fun z => hl.1 ?_, by omega, hl.2.2.1, by rw [q2.length]; exact hl.2.2.2, fun p hp => k _ _ (w.new hp) (new_repT w hp (q2.flat _))⟩
        subst z
        cases q2
        rfl
    · cases e
  · cases e
theorem opD_fdiv : OpD X c .FloorDiv fdivD := by
  rintro pins s σ H x y v u Q I rx ry ⟨a0, S, R, dx, dy, d, w, r1, r2, e, k⟩
  unfold fdivD at e
  split at e
  · split at e
    · rename_i hn
      cases e
      have := r1.int_inv; have := r2.int_inv; subst x; subst y
      exact op_fdiv pins s σ H _ _ v u Q I rx ry ⟨_, _, rfl, rfl, hn, k _ _ w (.int _)⟩
    · cases e
  · cases e
theorem opD_mod : OpD X c .Mod modD := by
  rintro pins s σ H x y v u Q I rx ry ⟨a0, S, R, dx, dy, d, w, r1, r2, e, k⟩
  unfold modD at e
  split at e
  · split at e
    · rename_i hn
      cases e
      have := r1.int_inv; have := r2.int_inv; subst x; subst y
      exact op_mod pins s σ H _ _ v u Q I rx ry ⟨_, _, rfl, rfl, hn, k _ _ w (.int _)⟩
    · cases e
  · cases e
theorem opD_pow : OpD X c .Pow powD := by
  rintro pins s σ H x y v u Q I rx ry ⟨a0, S, R, dx, dy, d, w, r1, r2, e, k⟩
  unfold powD at e
  split at e
  · split at e
    · rename_i hn
      cases e
      have := r1.int_inv; have := r2.int_inv; subst x; subst y
      exact op_pow pins s σ H _ _ v u Q I rx ry ⟨_, _, rfl, rfl, hn, k _ _ w (.int _)⟩
    · cases e
  · cases e
theorem opD_shl : OpD X c .LShift shlD := by
  rintro pins s σ H x y v u Q I rx ry ⟨a0, S, R, dx, dy, d, w, r1, r2, e, k⟩
  unfold shlD at e
  split at e
  · split at e
    · rename_i hn
      cases e
      have := r1.int_inv; have := r2.int_inv; subst x; subst y
      exact op_shl pins s σ H _ _ v u Q I rx ry ⟨_, _, rfl, rfl, hn, k _ _ w (.int _)⟩
    · cases e
  · cases e
theorem opD_shr : OpD X c .RShift shrD := by
  rintro pins s σ H x y v u Q I rx ry ⟨a0, S, R, dx, dy, d, w, r1, r2, e, k⟩
  unfold shrD at e
  split at e
  · split at e
    · rename_i hn
      cases e
      have := r1.int_inv; have := r2.int_inv; subst x; subst y
      exact op_shr pins s σ H _ _ v u Q I rx ry ⟨_, _, rfl, rfl, hn, k _ _ w (.int _)⟩
    · cases e
  · cases e
theorem opD_and : OpD X c .BitAnd andD := by
  rintro pins s σ H x y v u Q I rx ry ⟨a0, S, R, dx, dy, d, w, r1, r2, e, k⟩
  unfold andD at e
  split at e
  · cases e
    have := r1.int_inv; have := r2.int_inv; subst x; subst y
    exact op_and pins s σ H _ _ v u Q I rx ry ⟨_, _, rfl, rfl, k _ _ w (.int _)⟩
  · cases e
theorem opD_or : OpD X c .BitOr orD := by
  rintro pins s σ H x y v u Q I rx ry ⟨a0, S, R, dx, dy, d, w, r1, r2, e, k⟩
  unfold orD at e
  split at e
  · cases e
    have := r1.int_inv; have := r2.int_inv; subst x; subst y
    exact op_or pins s σ H _ _ v u Q I rx ry ⟨_, _, rfl, rfl, k _ _ w (.int _)⟩
  · cases e
theorem opD_xor : OpD X c .BitXor xorD := by
  rintro pins s σ H x y v u Q I rx ry ⟨a0, S, R, dx, dy, d, w, r1, r2, e, k⟩
  unfold xorD at e
  split at e
  · cases e
    have := r1.int_inv; have := r2.int_inv; subst x; subst y
    exact op_xor pins s σ H _ _ v u Q I rx ry ⟨_, _, rfl, rfl, k _ _ w (.int _)⟩
  · cases e
/-! comparisons -/
theorem cmD_of {op : CmpOp} {f : Int → Int → Bool} (h : OpR X (compareOp op) (rI0 fun i j => .bl (f i j))) : CmD X c op (cmpD f) := by
  rintro pins s σ H x y v u Q I rx ry ⟨a0, S, R, dx, dy, d, w, r1, r2, e, k⟩
  unfold cmpD at e
  split at e
  · cases e
    have := r1.int_inv; have := r2.int_inv; subst x; subst y
    exact h pins s σ H _ _ v u Q I rx ry ⟨_, _, rfl, rfl, k _ _ w (.bl _)⟩
  · cases e
theorem cmD_lt : CmD X c .Lt (cmpD fun i j => decide (i < j)) := cmD_of op_lt
theorem cmD_le : CmD X c .LtE (cmpD fun i j => decide (i ≤ j)) := cmD_of op_le
theorem cmD_gt : CmD X c .Gt (cmpD fun i j => decide (j < i)) := cmD_of op_gt
theorem cmD_ge : CmD X c .GtE (cmpD fun i j => decide (j ≤ i)) := cmD_of op_ge
theorem cmD_eq (hu : X.A.units + 64 < cLine) : CmD X c .Eq eqD := by
  rintro pins s σ H x y v u Q I rx ry ⟨a0, S, R, dx, dy, d, w, r1, r2, e, k⟩
  unfold eqD at e
  split at e
  · rename_i hs
    cases e
    rw [Bool.and_eq_true] at hs
    exact op_eqD hu pins s σ H _ _ v u Q I rx ry ⟨dx, dy, (r1.mono hide_sub).dp (shp_data hs.1), (r2.mono hide_sub).dp (shp_data hs.2), shp_shaped hs.1 (by decide), shp_shaped hs.2 (by decide), k _ _ w (.bl _)⟩
  · cases e
theorem cmD_ne (hu : X.A.units + 64 < cLine) : CmD X c .NotEq neD := by
  rintro pins s σ H x y v u Q I rx ry ⟨a0, S, R, dx, dy, d, w, r1, r2, e, k⟩
  unfold neD at e
  split at e
  · rename_i hs
    cases e
    rw [Bool.and_eq_true] at hs
    exact op_neD hu pins s σ H _ _ v u Q I rx ry ⟨dx, dy, (r1.mono hide_sub).dp (shp_data hs.1), (r2.mono hide_sub).dp (shp_data hs.2), shp_shaped hs.1 (by decide), shp_shaped hs.2 (by decide), k _ _ w (.bl _)⟩
  · cases e
theorem cmD_ltT {t : Ty} (hu : X.A.units + 64 < cLine) : CmD X c .Lt (ltTy t) := by
  rintro pins s σ H x y v u Q I rx ry ⟨a0, S, R, dx, dy, d, w, r1, r2, e, k⟩
  unfold ltTy at e
  split at e
  · rename_i hs
    cases e
    simp only [Bool.and_eq_true] at hs
    obtain ⟨⟨⟨t1, t2⟩, s1⟩, s2⟩ := hs
    obtain ⟨as, e1⟩ := Dp.reads I _ _ _ ((r1.mono hide_sub).dp (shp_data s1)) rx
    obtain ⟨bs, e2⟩ := Dp.reads I _ _ _ ((r2.mono hide_sub).dp (shp_data s2)) ry
    have h1 := (shp_facts _ _ s1).2.1
    exact PySem.W.lt_data e1 e2 (hasTy_alike t _ _ t1 t2) (hasTy_nn t1) (by omega) ⟨.bl _, H, I, rfl, k _ _ w (.bl _)⟩
  · cases e
theorem cmD_gtT {t : Ty} (hu : X.A.units + 64 < cLine) : CmD X c .Gt (fun d e => ltTy t e d) := by
  rintro pins s σ H x y v u Q I rx ry ⟨a0, S, R, dx, dy, d, w, r1, r2, e, k⟩
  dsimp only at e
  unfold ltTy at e
  split at e
  · rename_i hs
    cases e
    simp only [Bool.and_eq_true] at hs
    obtain ⟨⟨⟨t2, t1⟩, s2⟩, s1⟩ := hs
    obtain ⟨as, e1⟩ := Dp.reads I _ _ _ ((r1.mono hide_sub).dp (shp_data s1)) rx
    obtain ⟨bs, e2⟩ := Dp.reads I _ _ _ ((r2.mono hide_sub).dp (shp_data s2)) ry
    have h1 := (shp_facts _ _ s1).2.1
    exact PySem.W.gt_data e1 e2 (hasTy_alike t _ _ t1 t2) (hasTy_nn t1) (by omega) ⟨.bl _, H, I, rfl, k _ _ w (.bl _)⟩
  · cases e
theorem cmD_leT {t : Ty} (hu : X.A.units + 64 < cLine) : CmD X c .LtE (leTy t) := by
  rintro pins s σ H x y v u Q I rx ry ⟨a0, S, R, dx, dy, d, w, r1, r2, e, k⟩
  unfold leTy at e
  split at e
  · rename_i hs
    cases e
    simp only [Bool.and_eq_true] at hs
    obtain ⟨⟨⟨t1, t2⟩, s1⟩, s2⟩ := hs
    obtain ⟨as, e1⟩ := Dp.reads I _ _ _ ((r1.mono hide_sub).dp (shp_data s1)) rx
    obtain ⟨bs, e2⟩ := Dp.reads I _ _ _ ((r2.mono hide_sub).dp (shp_data s2)) ry
    have h1 := (shp_facts _ _ s1).2.1
    exact PySem.W.le_data e1 e2 (hasTy_alike t _ _ t1 t2) (hasTy_nn t1) (by omega) ⟨.bl _, H, I, rfl, k _ _ w (.bl _)⟩
  · cases e
/-- x is None -/
def noneD : PyData → Bool
  | .none => true
  | _ => false
def isND : PyData → PyData → Option PyData
  | x, .none => some (.bool (noneD x))
  | _, _ => none
def notND : PyData → PyData → Option PyData
  | x, .none => some (.bool (!noneD x))
  | _, _ => none
theorem rep_non {K : PySem.W.Frag} {a0 : Addr} {H : Hp} {x : V} {d : PyData} (r : Rep K a0 H x d) : decide (x = .non) = noneD d := by
  cases r <;> rfl
theorem cmD_isN : CmD X c .Is isND := by
  rintro pins s σ H x y v u Q I rx ry ⟨a0, S, R, dx, dy, d, w, r1, r2, e, k⟩
  unfold isND at e
  split at e
  · cases e
    have := r2.none_inv; subst y
    refine op_isN pins s σ H _ _ v u Q I rx ry ⟨rfl, ?_⟩
    rw [rep_non r1]
    exact k _ _ w (.bl _)
  · cases e
theorem cmD_notN : CmD X c .IsNot notND := by
  rintro pins s σ H x y v u Q I rx ry ⟨a0, S, R, dx, dy, d, w, r1, r2, e, k⟩
  unfold notND at e
  split at e
  · cases e
    have := r2.none_inv; subst y
    refine op_notN pins s σ H _ _ v u Q I rx ry ⟨rfl, ?_⟩
    rw [rep_non r1]
    exact k _ _ w (.bl _)
  · cases e
def isBD : PyData → PyData → Option PyData
  | .bool a, .bool b => some (.bool (decide (a = b)))
  | _, _ => none
def notBD : PyData → PyData → Option PyData
  | .bool a, .bool b => some (.bool (!decide (a = b)))
  | _, _ => none
theorem cmD_isB : CmD X c .Is isBD := by
  rintro pins s σ H x y v u Q I rx ry ⟨a0, S, R, dx, dy, d, w, r1, r2, e, k⟩
  unfold isBD at e
  split at e
  · cases e
    have := r1.bool_inv; have := r2.bool_inv; subst x; subst y
    exact op_isBl pins s σ H _ _ v u Q I rx ry ⟨_, _, rfl, rfl, k _ _ w (.bl _)⟩
  · cases e
theorem cmD_notB : CmD X c .IsNot notBD := by
  rintro pins s σ H x y v u Q I rx ry ⟨a0, S, R, dx, dy, d, w, r1, r2, e, k⟩
  unfold notBD at e
  split at e
  · cases e
    have := r1.bool_inv; have := r2.bool_inv; subst x; subst y
    exact op_notBl pins s σ H _ _ v u Q I rx ry ⟨_, _, rfl, rfl, k _ _ w (.bl _)⟩
  · cases e
/-! in: a list of data, a tuple of flat data -/
def flatD : PyData → Bool
  | .none => true
  | .bool _ => true
  | .int _ => true
  | .str _ => true
  | _ => false
def eqF : PyData → PyData → Bool
  | .none, .none => true
  | .bool a, .bool b => a == b
  | .bool a, .int b => (if a then 1 else 0) == b
  | .int a, .bool b => a == (if b then 1 else 0)
  | .int a, .int b => a == b
  | .str a, .str b => a == b
  | _, _ => false
def inSq (x : PyData) : PyData → Option Bool
  | .list ds => if shp 9 x && shp 9 (.list ds) then some (ds.any fun z => PyData.eqv z x) else none
  | .tuple ds => if flatD x && ds.all flatD then some (ds.any fun z => eqF z x) else none
  | _ => none
theorem rep_flat {K : PySem.W.Frag} {a0 : Addr} {H : Hp} {x : V} {d : PyData} (r : Rep K a0 H x d) (h : flatD d = true) : flatV x = true := by
  cases r <;> first | rfl | cases h
theorem rep_flats {K : PySem.W.Frag} {a0 : Addr} {H : Hp} {x : V} {d : PyData} (r : Rep K a0 H x d) (h : flatD d = true) : ∀ {xs : List V} {ds : List PyData}, RepA K a0 H xs ds → ds.all flatD = true → xs.all flatV = true ∧ (xs.any fun y => eqV y x) = ds.any fun z => eqF z d
  | _, _, .nil, _ => ⟨rfl, rfl⟩
  | _, _, .cons q t, hs => by
    rw [List.all_cons, Bool.and_eq_true] at hs
    obtain ⟨h1, h2⟩ := rep_flats r h t hs.2
    refine ⟨?_, ?_⟩
    · rw [List.all_cons, rep_flat q hs.1, h1]
      rfl
    · rw [List.any_cons, List.any_cons, h2]
      congr 1
      cases r <;> first | (cases h; done) | (cases q <;> first | rfl | (have := hs.1; cases this; done))
theorem cmD_in (hu : X.A.units + 65 < cLine) : CmD X c .In (fun x y => (inSq x y).map PyData.bool) := by
  rintro pins s σ H x y v u Q I rx ry ⟨a0, S, R, dx, dy, d, w, r1, r2, e, k⟩
  dsimp only at e
  unfold inSq at e
  split at e
  · split at e
    · rename_i hs
      cases e
      rw [Bool.and_eq_true] at hs
      exact op_inD hu pins s σ H _ _ v u Q I rx ry ⟨dx, _, (r1.mono hide_sub).dp (shp_data hs.1), (r2.mono hide_sub).dp (shp_data hs.2), shp_shaped hs.1 (by decide), shp_shaped hs.2 (by decide), k _ _ w (.bl _)⟩
    · cases e
  · split at e
    · rename_i hs
      cases e
      rw [Bool.and_eq_true] at hs
      obtain ⟨b, us, rfl, p1, p2⟩ := r2.tup_inv
      obtain ⟨f1, f2⟩ := rep_flats r1 hs.1 p2 hs.2
      refine op_in_seq pins s σ H _ _ v u Q I rx ry ⟨b, us, rfl, .inr ((.inl (.inl (of_hide p1).2))), rep_flat r1 hs.1, f1, ?_⟩
      rw [if_neg Bool.false_ne_true]
      unfold inV
      rw [f2]
      exact k _ _ w (.bl _)
    · cases e
  · cases e
theorem cmD_notin (hu : X.A.units + 65 < cLine) : CmD X c .NotIn (fun x y => (inSq x y).map fun b => PyData.bool (!b)) := by
  rintro pins s σ H x y v u Q I rx ry ⟨a0, S, R, dx, dy, d, w, r1, r2, e, k⟩
  dsimp only at e
  unfold inSq at e
  split at e
  · split at e
    · rename_i hs
      cases e
      rw [Bool.and_eq_true] at hs
      exact op_notInD hu pins s σ H _ _ v u Q I rx ry ⟨dx, _, (r1.mono hide_sub).dp (shp_data hs.1), (r2.mono hide_sub).dp (shp_data hs.2), shp_shaped hs.1 (by decide), shp_shaped hs.2 (by decide), k _ _ w (.bl _)⟩
    · cases e
  · split at e
    · rename_i hs
      cases e
      rw [Bool.and_eq_true] at hs
      obtain ⟨b, us, rfl, p1, p2⟩ := r2.tup_inv
      obtain ⟨f1, f2⟩ := rep_flats r1 hs.1 p2 hs.2
      refine op_notIn_seq pins s σ H _ _ v u Q I rx ry ⟨b, us, rfl, .inr ((.inl (.inl (of_hide p1).2))), rep_flat r1 hs.1, f1, ?_⟩
      rw [if_pos rfl]
      unfold inV
      rw [f2]
      exact k _ _ w (.bl _)
    · cases e
  · cases e
end
end Ev

/-! Ev: expressions by data -/
namespace Ev
open PySem PySem.Spec PyProof.Rows L2
section
variable {K : PySem.W.Frag} {c : Cfg} {E : XK} {a0 : Addr} {S : List Addr} {H H1 : Hp} {R R1 : Row} {σ : L2.St} {ρ : Env} {Q : VK}
/-- a part is read; what follows may lean on the world as it is then -/
theorem tD_of {den : Den} (w : Wd K c a0 S H H R) (en : EnvR K a0 (hide H S) ρ σ)
    (p : Ends (den ρ R) (fun d R' => ∀ v H', Wd K c a0 S H H' R' → Rep K a0 (hide H' S) v d → Q v H') (Ex K c E a0 S H)) : tD K c E den σ H Q := ⟨a0, S, ρ, R, w, en, p⟩
theorem tDL_of {den : DenL} {Q : List V → Hp → Prop} (w : Wd K c a0 S H H R) (en : EnvR K a0 (hide H S) ρ σ)
    (p : Ends (den ρ R) (fun d R' => ∀ v H', Wd K c a0 S H H' R' → RepA K a0 (hide H' S) v d → Q v H') (Ex K c E a0 S H)) : tDL K c E den σ H Q := ⟨a0, S, ρ, R, w, en, p⟩
theorem tDB_of {den : DenB} {Q : Bool → Hp → Prop} (w : Wd K c a0 S H H R) (en : EnvR K a0 (hide H S) ρ σ)
    (p : Ends (den ρ R) (fun b R' => ∀ H', Wd K c a0 S H H' R' → Q b H') (Ex K c E a0 S H)) : tDB K c E den σ H Q := ⟨a0, S, ρ, R, w, en, p⟩
/-- one part, then another: the second's ends, over the heap behind the first -/
theorem ends_next {α β : Type} {r : Res α} {f : α → Row → Res β} {ok : β → Row → Prop} (p : Ends (r.bind f) ok (Ex K c E a0 S H))
    {ok' : α → Row → Prop} (h : ∀ a R1, Ends (f a R1) ok (Ex K c E a0 S H) → ok' a R1) : Ends r ok' (Ex K c E a0 S H) := (Ends.bind p).mono h fun _ _ x => x
theorem ends_back {α : Type} {r : Res α} {ok : α → Row → Prop} (w : Wd K c a0 S H H1 R) (p : Ends r ok (Ex K c E a0 S H)) {ok' : α → Row → Prop} (h : ∀ a R', ok a R' → ok' a R') : Ends r ok' (Ex K c E a0 S H1) := p.mono h fun _ _ x => x.back w
end

section
variable {X : Cx} {c : Cfg} {E : XK} {pos : Pos}
def dVar (i : Nat) : Den := fun ρ R => ofO (ρ[i]?.join) R
def dC (d : PyData) : Den := fun _ R => .ok d R
theorem join_some {ρ : Env} {i : Nat} {d : PyData} (h : ρ[i]?.join = some d) : ρ[i]? = some (some d) := by
  cases e : ρ[i]? with
  | none => rw [e] at h; cases h
  | some o => rw [e] at h; exact congrArg some h
theorem de_var (i : Nat) {x : Str} (hN : X.N[i]? = some x := by rfl) (hv : Vis X.env.scope x := by first | exact Or.inl rfl | exact Or.inr (Or.inl rfl) | exact Or.inr (Or.inr rfl)) (hd : (x == ("__debug__" : Str)) = false := by decide) (hcd : (x == ("__classdict__" : Str)) = false := by decide) :
    DE X c E (.Name x pos) (dVar i) := PE.imp (pe_var hN hv hd hcd) fun σ H Q ⟨a0, S, ρ, R, w, en, p⟩ => by
  obtain ⟨d, e, q⟩ := Ends.ofO p
  obtain ⟨v, h1, h2⟩ := en.2 i d (join_some e)
  exact ⟨v, h1, q v H w h2⟩
theorem de_int {i : Int} {j} : DE X c E (.Constant (.int i) j pos) (dC (.int i)) := PE.imp pe_int fun σ H Q ⟨a0, S, ρ, R, w, en, p⟩ => p _ _ w (.int i)
theorem de_bool {b : Bool} {j} : DE X c E (.Constant (.bool b) j pos) (dC (.bool b)) := PE.imp pe_bl fun σ H Q ⟨a0, S, ρ, R, w, en, p⟩ => p _ _ w (.bl b)
theorem de_none {j} : DE X c E (.Constant .none j pos) (dC .none) := PE.imp pe_non fun σ H Q ⟨a0, S, ρ, R, w, en, p⟩ => p _ _ w .non
theorem de_str {x : Str} {j} : DE X c E (.Constant (.str x) j pos) (dC (.str x)) := PE.imp pe_str fun σ H Q ⟨a0, S, ρ, R, w, en, p⟩ => p _ _ w (.str x)
/-- a module's constant, an int -/
theorem de_glob {x : Str} {i : Int} (hm : ∃ t, X.mg x = some (.int i t)) (hg : Gl X x := by rfl) (hd : (x == ("__debug__" : Str)) = false := by decide) : DE X c E (.Name x pos) (dC (.int i)) := by
  obtain ⟨t, hm⟩ := hm
  exact PE.imp (pe_glob hg hm (show RelV (.int i) (.int i t) from ⟨t, rfl⟩) hd) fun σ H Q ⟨a0, S, ρ, R, w, en, p⟩ => p _ _ w (.int i)

/-! two parts and an operator -/
def dBin (f : PyData → PyData → Option PyData) (da db : Den) : Den := fun ρ R => (da ρ R).bind fun x R1 => (db ρ R1).bind fun y R2 => ofO (f x y) R2
theorem two {K : PySem.W.Frag} {f : PyData → PyData → Option PyData} {da db : Den} {σ : L2.St} {H : Hp} {Q : VK} (h : tD K c E (dBin f da db) σ H Q) : tOp (rD K c f) (tD K c E da) (tD K c E db) σ H Q := by
  obtain ⟨a0, S, ρ, R, w, en, p⟩ := h
  refine tD_of w en (ends_next p fun x R1 p v H1 w1 r1 => ?_)
  refine tD_of w1.here (en.mono w1.sub) (ends_back w1 (ends_next p fun y R2 p => p) fun y R2 p u H2 w2 r2 => ?_)
  obtain ⟨d, e, q⟩ := Ends.ofO p
  exact ⟨a0, S, R2, x, y, d, w2.here, r1.mono w2.sub, r2, e, fun z H3 w3 r3 => q z H3 ((w1.trans w2).trans w3) r3⟩
theorem de_bin {a b : Expr} {op : Operator} {f : PyData → PyData → Option PyData} {da db : Den} (ho : OpD X c op f) (ha : DE X c E a da) (hb : DE X c E b db) : DE X c E (.BinOp a op b pos) (dBin f da db) :=
  PE.imp (pe_op ho ha hb) fun _ _ _ => two
/-- a comparison, as a part of an expression or a test -/
def DC (X : Cx) (c : Cfg) (E : XK) (op : CmpOp) (a b : Expr) (den : Den) : Prop := PC X op a b (tD X.K c E den)
theorem PC.imp {op : CmpOp} {a b : Expr} {t t' : TE} (h : PC X op a b t) (m : ∀ σ H Q, t' σ H Q → t σ H Q) : PC X op a b t' := ⟨fun pins s σ H Q I q => h.run pins s σ H Q I (m σ H Q q)⟩
theorem PC.or {op : CmpOp} {a b : Expr} {t t' : TE} (h : PC X op a b t) (h' : PC X op a b t') : PC X op a b (fun σ H Q => t σ H Q ∨ t' σ H Q) := ⟨fun pins s σ H Q I q => q.elim (h.run pins s σ H Q I) (h'.run pins s σ H Q I)⟩
theorem pc_of {op : CmpOp} {r : R2} {a b : Expr} {ta tb : TE} (ho : OpR X (compareOp op) r) (ha : PE X a ta) (hb : PE X b tb) : PC X op a b (tOp r ta tb) :=
  ⟨fun pins s σ H Q I h => bin ha hb I h fun v u s2 x y H2 I2 rx ry q => ho pins s2 σ H2 x y v u Q I2 rx ry q⟩
theorem dc_cm {a b : Expr} {op : CmpOp} {f : PyData → PyData → Option PyData} {da db : Den} (ho : CmD X c op f) (ha : DE X c E a da) (hb : DE X c E b db) : DC X c E op a b (dBin f da db) :=
  PC.imp (pc_of ho ha hb) fun _ _ _ => two
theorem de_cmp {a b : Expr} {op : CmpOp} {den : Den} (h : DC X c E op a b den) (h1 : behindInMarks op b = false := by first | exact nobehind _ (by decide) (by decide) | rfl) : DE X c E (.Compare a [op] [b] pos) den := pe_cmp h h1
/-- what a test makes of a value -/
def boolD : PyData → Option Bool
  | .bool b => some b
  | _ => none
def dTB (d : Den) : DenB := fun ρ R => (d ρ R).bind fun x R1 => ofO (boolD x) R1
theorem tB_of {K : PySem.W.Frag} {d : Den} {σ : L2.St} {H : Hp} {Q : Bool → Hp → Prop} (h : tDB K c E (dTB d) σ H Q) : tB (tD K c E d) σ H Q := by
  obtain ⟨a0, S, ρ, R, w, en, p⟩ := h
  refine tD_of w en (ends_next p fun x R1 p v H1 w1 r1 => ?_)
  obtain ⟨b, e, q⟩ := Ends.ofO p
  cases x <;> simp only [boolD, reduceCtorEq, Option.some.injEq] at e
  subst e
  exact ⟨_, r1.bool_inv, q H1 w1⟩
theorem dt_cmp {a b : Expr} {op : CmpOp} {den : Den} (h : DC X c E op a b den) (h1 : behindInMarks op b = false := by first | exact nobehind _ (by decide) (by decide) | rfl) : DT X c E (.Compare a [op] [b] pos) (dTB den) :=
  PT.imp (pt_cmp h h1) fun _ _ _ => tB_of
theorem dt_val {a : Expr} {den : Den} (h : DE X c E a den) (he : ∀ whole, isTrue a X.env whole = (do let v ← whole; standAt a.pos; holding [v] (truthy v)) := by intro _; rfl) : DT X c E a (dTB den) :=
  PT.imp (pt_val h he) fun _ _ _ => tB_of
/-- a chain of two -/
def dChain (f g : PyData → PyData → Option PyData) (da db dc : Den) : Den := fun ρ R => (da ρ R).bind fun x R1 => (db ρ R1).bind fun y R2 => (ofO ((f x y).bind boolD) R2).bind fun b R3 =>
  if b then (dc ρ R3).bind fun z R4 => ofO (g y z) R4 else .ok (.bool false) R3
theorem chain_of {K : PySem.W.Frag} {f g : PyData → PyData → Option PyData} {da db dc : Den} {σ : L2.St} {H : Hp} {Q : VK} (h : tD K c E (dChain f g da db dc) σ H Q) : tChain (rD K c f) (rD K c g) (tD K c E da) (tD K c E db) (tD K c E dc) σ H Q := by
  obtain ⟨a0, S, ρ, R, w, en, p⟩ := h
  refine tD_of w en (ends_next p fun x R1 p v H1 w1 r1 => ?_)
  refine tD_of w1.here (en.mono w1.sub) (ends_back w1 (ends_next p fun y R2 p => p) fun y R2 p u H2 w2 r2 => ?_)
  obtain ⟨b, e, q⟩ := Ends.ofO (Ends.bind p)
  obtain ⟨d, e1, e2⟩ := Option.bind_eq_some_iff.mp e
  cases d <;> simp only [boolD, reduceCtorEq, Option.some.injEq] at e2
  subst e2
  refine ⟨a0, S, R2, x, y, _, w2.here, r1.mono w2.sub, r2, e1, fun z H3 w3 r3 => ?_⟩
  rename_i bb
  have w13 := (w1.trans w2).trans w3
  refine ⟨bb, r3.bool_inv, ?_⟩
  cases bb with
  | true =>
    refine tD_of w3.here ((en.mono w1.sub).mono (w2.trans w3).sub) (ends_back w13 (ends_next q fun z R3 p => p) fun z R3 p u3 H4 w4 r4 => ?_)
    obtain ⟨d, e, q⟩ := Ends.ofO p
    exact ⟨a0, S, R3, y, z, d, w4.here, (r2.mono w3.sub).mono w4.sub, r4, e, fun z H5 w5 r5 => q z H5 ((w13.trans w4).trans w5) r5⟩
  | false => exact q _ _ w13 (.bl false)
theorem de_chain {a b d : Expr} {op op' : CmpOp} {f g : PyData → PyData → Option PyData} {da db dc : Den} (ho : CmD X c op f) (ho' : CmD X c op' g) (ha : DE X c E a da) (hb : DE X c E b db) (hc : DE X c E d dc) (hm : lastMarks [op, op'] [b, d] = false := by with_unfolding_all rfl) :
    DE X c E (.Compare a [op, op'] [b, d] pos) (dChain f g da db dc) := PE.imp (pe_chain ho ho' ha hb hc hm) fun _ _ _ => chain_of
theorem tTest_of {K : PySem.W.Frag} {d : Den} {σ : L2.St} {H : Hp} {Q : Bool → Hp → Prop} {t : TE} (ht : ∀ Q, tD K c E d σ H Q → t σ H Q) (h : tDB K c E (dTB d) σ H Q) : tTest t σ H Q := by
  obtain ⟨a0, S, ρ, R, w, en, p⟩ := h
  refine ht _ (tD_of w en (ends_next p fun x R1 p v H1 w1 r1 => ?_))
  obtain ⟨b, e, q⟩ := Ends.ofO p
  cases x <;> simp only [boolD, reduceCtorEq, Option.some.injEq] at e
  subst e
  exact ⟨_, r1.bool_inv, q H1 w1⟩
theorem dt_chain {a b d : Expr} {op op' : CmpOp} {f g : PyData → PyData → Option PyData} {da db dc : Den} (ho : CmD X c op f) (ho' : CmD X c op' g) (ha : DE X c E a da) (hb : DE X c E b db) (hc : DE X c E d dc) (hm : lastMarks [op, op'] [b, d] = false := by with_unfolding_all rfl) :
    DT X c E (.Compare a [op, op'] [b, d] pos) (dTB (dChain f g da db dc)) := PT.imp (pt_chain ho ho' ha hb hc hm) fun _ _ _ => tTest_of fun _ => chain_of

/-! and, or, not -/
def dAnd (da db : Den) : Den := fun ρ R => (da ρ R).bind fun x R1 => (ofO (boolD x) R1).bind fun b R2 => if b then db ρ R2 else .ok (.bool false) R2
def dOr (da db : Den) : Den := fun ρ R => (da ρ R).bind fun x R1 => (ofO (boolD x) R1).bind fun b R2 => if b then .ok (.bool true) R2 else db ρ R2
def dNot (da : Den) : Den := fun ρ R => (da ρ R).bind fun x R1 => (ofO (boolD x) R1).bind fun b R2 => .ok (.bool !b) R2
theorem bool_data {K : PySem.W.Frag} {a0 : Addr} {H : Hp} {v : V} {x : PyData} {b : Bool} (e : boolD x = some b) (r : Rep K a0 H v x) : v = .bl b := by
  cases x <;> simp only [boolD, reduceCtorEq, Option.some.injEq] at e
  subst e
  exact r.bool_inv
theorem de_one {op} {a : Expr} {den : Den} (h : DE X c E a den) : DE X c E (.BoolOp op [a] pos) den := pe_one h
theorem de_and {a b : Expr} {rest : List Expr} {da db : Den} (ha : DE X c E a da) (hb : DE X c E (.BoolOp .And (b :: rest) pos) db) : DE X c E (.BoolOp .And (a :: b :: rest) pos) (dAnd da db) :=
  PE.imp (pe_and ha hb) fun σ H Q ⟨a0, S, ρ, R, w, en, p⟩ => tD_of w en (ends_next p fun x R1 p v H1 w1 r1 => by
    obtain ⟨b, e, q⟩ := Ends.ofO (Ends.bind p)
    refine ⟨b, bool_data e r1, ?_⟩
    cases b with
    | true => exact tD_of w1.here (en.mono w1.sub) (ends_back w1 q fun y R2 p u H2 w2 r2 => p u H2 (w1.trans w2) r2)
    | false => exact q _ _ w1 (.bl false))
theorem de_or {a b : Expr} {rest : List Expr} {da db : Den} (ha : DE X c E a da) (hb : DE X c E (.BoolOp .Or (b :: rest) pos) db) : DE X c E (.BoolOp .Or (a :: b :: rest) pos) (dOr da db) :=
  PE.imp (pe_or ha hb) fun σ H Q ⟨a0, S, ρ, R, w, en, p⟩ => tD_of w en (ends_next p fun x R1 p v H1 w1 r1 => by
    obtain ⟨b, e, q⟩ := Ends.ofO (Ends.bind p)
    refine ⟨b, bool_data e r1, ?_⟩
    cases b with
    | false => exact tD_of w1.here (en.mono w1.sub) (ends_back w1 q fun y R2 p u H2 w2 r2 => p u H2 (w1.trans w2) r2)
    | true => exact q _ _ w1 (.bl true))
theorem de_not {a : Expr} {da : Den} (ha : DE X c E a da) : DE X c E (.UnaryOp .Not a pos) (dNot da) :=
  PE.imp (pe_not ha) fun σ H Q ⟨a0, S, ρ, R, w, en, p⟩ => tD_of w en (ends_next p fun x R1 p v H1 w1 r1 => by
    obtain ⟨b, e, q⟩ := Ends.ofO (Ends.bind p)
    exact ⟨b, bool_data e r1, q _ _ w1 (.bl _)⟩)
/-! .. as tests -/
def bAnd (da db : DenB) : DenB := fun ρ R => (da ρ R).bind fun b R2 => if b then db ρ R2 else .ok false R2
def bOr (da db : DenB) : DenB := fun ρ R => (da ρ R).bind fun b R2 => if b then .ok true R2 else db ρ R2
def bNot (da : DenB) : DenB := fun ρ R => (da ρ R).bind fun b R2 => .ok (!b) R2
def DW (X : Cx) (c : Cfg) (E : XK) (e : Expr) (den : DenB) : Prop := PW X e (tDB X.K c E den)
theorem PW.imp {e : Expr} {t t' : TT} (h : PW X e t) (m : ∀ σ H Q, t' σ H Q → t σ H Q) : PW X e t' := ⟨fun wh pins s σ H Q I q => h.run wh pins s σ H Q I (m σ H Q q)⟩
theorem DW.dt {e : Expr} {den : DenB} (h : DW X c E e den) : DT X c E e den := PW.pt h
theorem dw_and1 {a : Expr} {da : DenB} (ha : DT X c E a da) : DW X c E (.BoolOp .And [a] pos) da := pw_and1 ha
theorem dw_or1 {a : Expr} {da : DenB} (ha : DT X c E a da) : DW X c E (.BoolOp .Or [a] pos) da := pw_or1 ha
theorem dw_and {a b : Expr} {rest : List Expr} {da db : DenB} (ha : DT X c E a da) (hb : DW X c E (.BoolOp .And (b :: rest) pos) db) : DW X c E (.BoolOp .And (a :: b :: rest) pos) (bAnd da db) :=
  PW.imp (pw_and ha hb) fun σ H Q ⟨a0, S, ρ, R, w, en, p⟩ => tDB_of w en (ends_next p fun b R1 q H1 w1 => by
    cases b with
    | true => exact tDB_of w1.here (en.mono w1.sub) (ends_back w1 q fun y R2 p H2 w2 => p H2 (w1.trans w2))
    | false => exact q _ w1)
theorem dw_or {a b : Expr} {rest : List Expr} {da db : DenB} (ha : DT X c E a da) (hb : DW X c E (.BoolOp .Or (b :: rest) pos) db) : DW X c E (.BoolOp .Or (a :: b :: rest) pos) (bOr da db) :=
  PW.imp (pw_or ha hb) fun σ H Q ⟨a0, S, ρ, R, w, en, p⟩ => tDB_of w en (ends_next p fun b R1 q H1 w1 => by
    cases b with
    | false => exact tDB_of w1.here (en.mono w1.sub) (ends_back w1 q fun y R2 p H2 w2 => p H2 (w1.trans w2))
    | true => exact q _ w1)
theorem dt_not {a : Expr} {da : DenB} (ha : DT X c E a da) : DT X c E (.UnaryOp .Not a pos) (bNot da) :=
  PT.imp (pt_not ha) fun σ H Q ⟨a0, S, ρ, R, w, en, p⟩ => tDB_of w en (ends_next p fun b R1 q H1 w1 => q _ w1)
/-! a if t else b -/
def dIf (t : DenB) (da db : Den) : Den := fun ρ R => (t ρ R).bind fun b R1 => if b then da ρ R1 else db ρ R1
theorem de_if {t a b : Expr} {dt : DenB} {da db : Den} (ht : DT X c E t dt) (ha : DE X c E a da) (hb : DE X c E b db) : DE X c E (.IfExp t a b pos) (dIf dt da db) :=
  PE.imp (pe_ifExp ht ha hb) fun σ H Q ⟨a0, S, ρ, R, w, en, p⟩ => tDB_of w en (ends_next p fun b R1 q H1 w1 => by
    cases b with
    | true => exact tD_of w1.here (en.mono w1.sub) (ends_back w1 q fun y R2 p u H2 w2 r2 => p u H2 (w1.trans w2) r2)
    | false => exact tD_of w1.here (en.mono w1.sub) (ends_back w1 q fun y R2 p u H2 w2 r2 => p u H2 (w1.trans w2) r2))

/-! minus -/
def negD : PyData → Option PyData
  | .int a => some (.int (-a))
  | _ => none
def dUn (f : PyData → Option PyData) (da : Den) : Den := fun ρ R => (da ρ R).bind fun x R1 => ofO (f x) R1
theorem de_neg {a : Expr} {da : Den} (ha : DE X c E a da) : DE X c E (.UnaryOp .USub a pos) (dUn negD da) :=
  PE.imp (pe_un un_neg ha) fun σ H Q ⟨a0, S, ρ, R, w, en, p⟩ => tD_of w en (ends_next p fun x R1 p v H1 w1 r1 => by
    obtain ⟨d, e, q⟩ := Ends.ofO p
    cases x <;> simp only [negD, reduceCtorEq, Option.some.injEq] at e
    subst e
    exact ⟨_, r1.int_inv, q _ _ w1 (.int _)⟩)

/-! ### lists of parts -/
def lNil : DenL := fun _ R => .ok [] R
def lCons (d : Den) (r : DenL) : DenL := fun ρ R => (d ρ R).bind fun x R1 => (r ρ R1).bind fun xs R2 => .ok (x :: xs) R2
theorem das_nil : DEs X c E [] lNil := PA.imp pa_nil fun σ H Q ⟨a0, S, ρ, R, w, en, p⟩ => p _ _ w .nil
theorem das_cons {e : Expr} {es : List Expr} {d : Den} {r : DenL} (h : DE X c E e d) (hr : DEs X c E es r) (hs : starEach (e :: es) X.env = (false, eval e X.env) :: starEach es X.env := by rfl) : DEs X c E (e :: es) (lCons d r) :=
  PA.imp (pa_cons h hr hs) fun σ H Q ⟨a0, S, ρ, R, w, en, p⟩ => tD_of w en (ends_next p fun x R1 p v H1 w1 r1 =>
    tDL_of w1.here (en.mono w1.sub) (ends_back w1 (ends_next p fun y R2 p => p) fun y R2 p u H2 w2 r2 => p _ _ (w1.trans w2) (.cons (r1.mono w2.sub) r2)))
def dTup (es : DenL) : Den := fun ρ R => (es ρ R).bind fun xs R1 => if xs.length ≤ sizeLine then .ok (.tuple xs) R1 else .stuck
theorem de_tup {es : List Expr} {x1} {d : DenL} (h : DEs X c E es d) : DE X c E (.Tuple es x1 pos) (dTup d) :=
  PE.imp (pe_tup h) fun σ H Q ⟨a0, S, ρ, R, w, en, p⟩ => tDL_of w en (ends_next p fun xs R1 p vs H1 w1 r1 => by
    split at p
    · rename_i hl
      exact ⟨by rw [r1.length]; exact hl, fun q hq => p _ _ (w1.trans (w1.here.new hq)) (new_repT w1.here hq r1)⟩
    · exact p.elim)
/-! ### new lists -/
def dLst (l : DenL) : Den := fun ρ R => (l ρ R).map PyData.list
theorem tD_of_N {K : PySem.W.Frag} {l : DenL} {σ : L2.St} {H : Hp} {Q : VK} (h : tD K c E (dLst l) σ H Q) : tDN K c E l σ H Q := by
  obtain ⟨a0, S, ρ, R, w, en, p⟩ := h
  refine ⟨a0, S, ρ, R, w, en, ends_next p fun ds R1 q p vs H1 hp w1 h1 r => ?_⟩
  have nS : p ∉ S := fun z => by
    obtain ⟨o, e, n⟩ := w.sS p z
    exact hp o e n
  refine q _ _ w1 (.lst ?_ (r.mono (hide_more fun b hb => List.mem_cons_of_mem _ hb)))
  rw [hide_out nS]
  exact h1
theorem DN.de {e : Expr} {l : DenL} (h : DN X c E e l) : DE X c E e (dLst l) := PE.imp h fun _ _ _ => tD_of_N
def nLst (es : DenL) : DenL := fun ρ R => (es ρ R).bind fun xs R1 => if xs.length ≤ sizeLine then .ok xs R1 else .stuck
theorem dn_lst {es : List Expr} {d : DenL} (h : DEs X c E es d) : DN X c E (.List es pos) (nLst d) :=
  PE.imp (pe_lst h) fun σ H Q ⟨a0, S, ρ, R, w, en, p⟩ => tDL_of w en (ends_next p fun xs R1 p vs H1 w1 r1 => by
    split at p
    · rename_i hl
      refine ⟨by rw [r1.length]; exact hl, fun q hq => ?_⟩
      exact p _ _ _ (w1.fr hq) (w1.trans (w1.here.new hq)) upd_same (r1.mono (new_sub w1.here hq))
    · exact p.elim)
end
end Ev

/-! Ev: dicts by data -/
namespace Ev
open PySem PySem.Spec PyProof.Rows L2

def toKey : PyData → Option Key
  | .int i => some (.inl i)
  | .str x => some (.inr x)
  | _ => none
def toKeys : List PyData → Option (List Key)
  | [] => some []
  | d :: ds => (toKey d).bind fun k => (toKeys ds).map fun r => k :: r
def toKeyT : PyData → Option (List Key)
  | .tuple ds => toKeys ds
  | _ => none
theorem toKey_keyD (k : Key) : toKey (keyD k) = some k := by cases k <;> rfl
theorem toKey_eq {d : PyData} {k : Key} (h : toKey d = some k) : d = keyD k := by
  cases d <;> simp only [toKey, reduceCtorEq, Option.some.injEq] at h <;> subst h <;> rfl
theorem toKeys_keyD : ∀ (k : List Key), toKeys (k.map keyD) = some k
  | [] => rfl
  | a :: r => by rw [List.map_cons, toKeys, toKey_keyD, toKeys_keyD r]; rfl
theorem toKeys_eq : ∀ {ds : List PyData} {k : List Key}, toKeys ds = some k → ds = k.map keyD
  | [], k, h => by cases h; rfl
  | d :: ds, k, h => by
    rw [toKeys] at h
    obtain ⟨a, h1, h2⟩ := Option.bind_eq_some_iff.mp h
    obtain ⟨r, h3, h4⟩ := Option.map_eq_some_iff.mp h2
    subst h4
    rw [toKey_eq h1, toKeys_eq h3]
    rfl
theorem toKeyT_keyT (k : List Key) : toKeyT (keyT k) = some k := toKeys_keyD k
theorem toKeyT_eq {d : PyData} {k : List Key} (h : toKeyT d = some k) : d = keyT k := by
  cases d <;> simp only [toKeyT, reduceCtorEq] at h
  rw [toKeys_eq h]
  rfl
theorem toKey_keyT (k : List Key) : toKey (keyT k) = none := rfl
theorem toKeyT_keyD (k : Key) : toKeyT (keyD k) = none := by cases k <;> rfl
/-- whether two keys are one -/
def keq (a b : PyData) : Bool := match toKey a, toKey b with
  | some x, some y => decide (x = y)
  | none, none => (match toKeyT a, toKeyT b with
    | some x, some y => decide (x = y)
    | _, _ => false)
  | _, _ => false
theorem keq_D (a b : Key) : keq (keyD a) (keyD b) = decide (a = b) := by unfold keq; rw [toKey_keyD, toKey_keyD]
theorem keq_T (a b : List Key) : keq (keyT a) (keyT b) = decide (a = b) := by
  unfold keq
  rw [toKey_keyT, toKey_keyT]
  dsimp only
  rw [toKeyT_keyT, toKeyT_keyT]
def dget (ps : List (PyData × PyData)) (k : PyData) : Option PyData := (ps.find? fun p => keq p.1 k).map (·.2)
def dput (ps : List (PyData × PyData)) (k v : PyData) : List (PyData × PyData) := if (ps.any fun p => keq p.1 k) = true then ps.map (fun p => if keq p.1 k then (p.1, v) else p) else ps ++ [(k, v)]
def ddrop (ps : List (PyData × PyData)) (k : PyData) : List (PyData × PyData) := ps.filter fun p => !keq p.1 k
/-- the dict's keys are of the key's kind -/
def kinOk (ps : List (PyData × PyData)) (k : PyData) : Bool :=
  ((toKey k).isSome && ps.all fun p => (toKey p.1).isSome) || ((toKeyT k).isSome && ps.all fun p => (toKeyT p.1).isSome)

section
variable {K : PySem.W.Frag} {a0 : Addr} {H : Hp}
def RelD (K : PySem.W.Frag) (a0 : Addr) (H : Hp) : Option V → Option PyData → Prop
  | some v, some d => Rep K a0 H v d
  | none, none => True
  | _, _ => False
theorem RepK.get (k : Key) : ∀ {kvs : List (Key × V)} {ps : List (PyData × PyData)}, RepK K a0 H kvs ps → RelD K a0 H (valV kvs k) (dget ps (keyD k))
  | _, _, .nil => True.intro
  | _, _, .cons (k := j) (v := v) (vs := vs) (d := d) (ds := ds) h r => by
    by_cases e : j = k
    · have e1 : valV ((j, v) :: vs) k = some v := valV_pos e
      have e2 : dget ((keyD j, d) :: ds) (keyD k) = some d := by
        unfold dget
        rw [List.find?_cons_of_pos (by rw [keq_D]; exact decide_eq_true e)]
        rfl
      rw [e1, e2]
      exact h
    · have e1 : valV ((j, v) :: vs) k = valV vs k := valV_neg e
      have e2 : dget ((keyD j, d) :: ds) (keyD k) = dget ds (keyD k) := by
        unfold dget
        rw [List.find?_cons_of_neg (by rw [keq_D, decide_eq_false e]; exact Bool.false_ne_true)]
      rw [e1, e2]
      exact RepK.get k r
theorem RepT.get (k : List Key) : ∀ {kvs : List (List Key × V)} {ps : List (PyData × PyData)}, RepT K a0 H kvs ps → RelD K a0 H (valV kvs k) (dget ps (keyT k))
  | _, _, .nil => True.intro
  | _, _, .cons (k := j) (v := v) (vs := vs) (d := d) (ds := ds) h r => by
    by_cases e : j = k
    · have e1 : valV ((j, v) :: vs) k = some v := valV_pos e
      have e2 : dget ((keyT j, d) :: ds) (keyT k) = some d := by
        unfold dget
        rw [List.find?_cons_of_pos (by rw [keq_T]; exact decide_eq_true e)]
        rfl
      rw [e1, e2]
      exact h
    · have e1 : valV ((j, v) :: vs) k = valV vs k := valV_neg e
      have e2 : dget ((keyT j, d) :: ds) (keyT k) = dget ds (keyT k) := by
        unfold dget
        rw [List.find?_cons_of_neg (by rw [keq_T, decide_eq_false e]; exact Bool.false_ne_true)]
      rw [e1, e2]
      exact RepT.get k r
theorem RepK.length : ∀ {kvs : List (Key × V)} {ps : List (PyData × PyData)}, RepK K a0 H kvs ps → kvs.length = ps.length
  | _, _, .nil => rfl
  | _, _, .cons _ r => by rw [List.length_cons, List.length_cons, RepK.length r]
theorem RepT.length : ∀ {kvs : List (List Key × V)} {ps : List (PyData × PyData)}, RepT K a0 H kvs ps → kvs.length = ps.length
  | _, _, .nil => rfl
  | _, _, .cons _ r => by rw [List.length_cons, List.length_cons, RepT.length r]
theorem RepK.any (k : Key) : ∀ {kvs : List (Key × V)} {ps : List (PyData × PyData)}, RepK K a0 H kvs ps → (kvs.any fun kv => decide (kv.1 = k)) = ps.any fun p => keq p.1 (keyD k)
  | _, _, .nil => rfl
  | _, _, .cons _ r => by rw [List.any_cons, List.any_cons, RepK.any k r, keq_D]
theorem RepT.any (k : List Key) : ∀ {kvs : List (List Key × V)} {ps : List (PyData × PyData)}, RepT K a0 H kvs ps → (kvs.any fun kv => decide (kv.1 = k)) = ps.any fun p => keq p.1 (keyT k)
  | _, _, .nil => rfl
  | _, _, .cons _ r => by rw [List.any_cons, List.any_cons, RepT.any k r, keq_T]
theorem RepK.append : ∀ {v v' : List (Key × V)} {d d' : List (PyData × PyData)}, RepK K a0 H v d → RepK K a0 H v' d' → RepK K a0 H (v ++ v') (d ++ d')
  | _, _, _, _, .nil, s => s
  | _, _, _, _, .cons h r, s => .cons h (RepK.append r s)
theorem RepT.append : ∀ {v v' : List (List Key × V)} {d d' : List (PyData × PyData)}, RepT K a0 H v d → RepT K a0 H v' d' → RepT K a0 H (v ++ v') (d ++ d')
  | _, _, _, _, .nil, s => s
  | _, _, _, _, .cons h r, s => .cons h (RepT.append r s)
theorem RepK.repl (k : Key) {v : V} {d : PyData} (h : Rep K a0 H v d) : ∀ {kvs : List (Key × V)} {ps : List (PyData × PyData)}, RepK K a0 H kvs ps →
    RepK K a0 H (kvs.map fun kv => if kv.1 = k then (kv.1, v) else kv) (ps.map fun p => if keq p.1 (keyD k) then (p.1, d) else p)
  | _, _, .nil => .nil
  | _, _, .cons (k := j) h' r => by
    rw [List.map_cons, List.map_cons]
    dsimp only
    rw [keq_D]
    by_cases e : j = k
    · rw [if_pos e, if_pos (decide_eq_true e)]
      exact .cons h (RepK.repl k h r)
    · rw [if_neg e, if_neg (by rw [decide_eq_false e]; exact Bool.false_ne_true)]
      exact .cons h' (RepK.repl k h r)
theorem RepT.repl (k : List Key) {v : V} {d : PyData} (h : Rep K a0 H v d) : ∀ {kvs : List (List Key × V)} {ps : List (PyData × PyData)}, RepT K a0 H kvs ps →
    RepT K a0 H (kvs.map fun kv => if kv.1 = k then (kv.1, v) else kv) (ps.map fun p => if keq p.1 (keyT k) then (p.1, d) else p)
  | _, _, .nil => .nil
  | _, _, .cons (k := j) h' r => by
    rw [List.map_cons, List.map_cons]
    dsimp only
    rw [keq_T]
    by_cases e : j = k
    · rw [if_pos e, if_pos (decide_eq_true e)]
      exact .cons h (RepT.repl k h r)
    · rw [if_neg e, if_neg (by rw [decide_eq_false e]; exact Bool.false_ne_true)]
      exact .cons h' (RepT.repl k h r)
theorem RepK.put (k : Key) {v : V} {d : PyData} (h : Rep K a0 H v d) {kvs : List (Key × V)} {ps : List (PyData × PyData)} (r : RepK K a0 H kvs ps) : RepK K a0 H (putK kvs k v) (dput ps (keyD k) d) := by
  unfold putK dput
  rw [r.any k]
  split
  · exact r.repl k h
  · exact r.append (.cons h .nil)
theorem RepT.put (k : List Key) {v : V} {d : PyData} (h : Rep K a0 H v d) {kvs : List (List Key × V)} {ps : List (PyData × PyData)} (r : RepT K a0 H kvs ps) : RepT K a0 H (putK kvs k v) (dput ps (keyT k) d) := by
  unfold putK dput
  rw [r.any k]
  split
  · exact r.repl k h
  · exact r.append (.cons h .nil)
theorem RepK.drop (k : Key) : ∀ {kvs : List (Key × V)} {ps : List (PyData × PyData)}, RepK K a0 H kvs ps → RepK K a0 H (dropK kvs k) (ddrop ps (keyD k))
  | _, _, .nil => .nil
  | _, _, .cons (k := j) (v := v) (vs := vs) (d := d) (ds := ds) h' r => by
    have ih := RepK.drop k r
    unfold dropK ddrop at ih ⊢
    by_cases e : j = k
    · rw [List.filter_cons_of_neg (by simp [e]), List.filter_cons_of_neg (by rw [keq_D, decide_eq_true e]; simp)]
      exact ih
    · rw [List.filter_cons_of_pos (by simp [e]), List.filter_cons_of_pos (by rw [keq_D, decide_eq_false e]; rfl)]
      exact .cons h' ih
theorem repK_noT : ∀ {kvs : List (Key × V)} {ps : List (PyData × PyData)}, RepK K a0 H kvs ps → (ps.all fun p => (toKeyT p.1).isSome) = true → kvs = [] ∧ ps = []
  | _, _, .nil, _ => ⟨rfl, rfl⟩
  | _, _, .cons _ r, h => by
    rw [List.all_cons, Bool.and_eq_true, toKeyT_keyD] at h
    cases h.1
theorem repT_noK : ∀ {kvs : List (List Key × V)} {ps : List (PyData × PyData)}, RepT K a0 H kvs ps → (ps.all fun p => (toKey p.1).isSome) = true → kvs = [] ∧ ps = []
  | _, _, .nil, _ => ⟨rfl, rfl⟩
  | _, _, .cons _ r, h => by
    rw [List.all_cons, Bool.and_eq_true, toKey_keyT] at h
    cases h.1
/-- a tuple of keys that is told by data is a tracked one -/
theorem repA_keys : ∀ {xs : List V} {ks : List Key}, RepA K a0 H xs (ks.map keyD) → xs = ks.map kV
  | _, [], .nil => rfl
  | _, .inl i :: ks, .cons h r => by rw [h.int_inv, repA_keys r]; rfl
  | _, .inr x :: ks, .cons h r => by rw [h.str_inv, repA_keys r]; rfl
end

/-! ### the empty dict is of both kinds -/
section
variable {P : Program} {w : World} {H : Hp} {h : Heap} {a : Addr}
theorem empty_KT (x : ObjOk P w H h a (.dK [])) : ObjOk P w H h a (.dT []) := by
  obtain ⟨z, hd, vs, rel, o, es, ep, e, ex, d, keys, prs, nd⟩ := x
  cases rel
  cases hes : es.toList with
  | nil => exact ⟨z, hd, [], .nil, o, es, ep, e, ex, d, hes, List.nodup_nil⟩
  | cons p r =>
    rw [hes] at prs
    cases prs
theorem empty_TK (x : ObjOk P w H h a (.dT [])) : ObjOk P w H h a (.dK []) := by
  obtain ⟨z, hd, xs, rel, o, es, ep, e, ex, d, hes, nd⟩ := x
  cases rel
  have e0 : es = #[] := by
    cases es
    simp at hes
    subst hes
    rfl
  subst e0
  refine ⟨z, hd, [], .nil, o, #[], ep, e, ex, d, ?_, ?_, List.nodup_nil⟩
  · intro en hen
    simp at hen
  · exact .nil
end
end Ev

/-! Ev: reading dicts, subscripts, slices -/
namespace Ev
open PySem PySem.Spec PyProof.Rows L2
section
variable {X : Cx} {pins : List (Addr × Obj)} {σ : L2.St} {H : Hp} {s : Shared} {a a0 : Addr} {S : List Addr} {y : V} {u : Value} {A : Around} {E : Value → Shared → Prop} {ps : List (PyData × PyData)} {kd : PyData}
theorem rdK (I : Inv X pins σ H s) (r : Rep X.K a0 (hide H S) (.ref a) (.dict ps)) (hk : (ps.all fun p => (toKey p.1).isSome) = true) : ∃ kvs, ObjOk X.prog X.w H s.heap a (.dK kvs) ∧ RepK X.K a0 (hide H S) kvs ps := by
  obtain ⟨b, e, q⟩ := r.dict_inv
  cases e
  rcases q with ⟨kvs, q1, q2⟩ | ⟨kvs, q1, q2⟩ | ⟨e, q⟩
  · exact ⟨kvs, rd_of I.hok (hide_sub.rd nt_dK q1), q2⟩
  · obtain ⟨e1, e2⟩ := repT_noK q2 hk
    subst e1 e2
    exact ⟨[], empty_TK (rd_of I.hok (hide_sub.rd nt_dT q1)), .nil⟩
  · subst q
    cases hk
theorem rdT (I : Inv X pins σ H s) (r : Rep X.K a0 (hide H S) (.ref a) (.dict ps)) (hk : (ps.all fun p => (toKeyT p.1).isSome) = true) : ∃ kvs, ObjOk X.prog X.w H s.heap a (.dT kvs) ∧ RepT X.K a0 (hide H S) kvs ps := by
  obtain ⟨b, e, q⟩ := r.dict_inv
  cases e
  rcases q with ⟨kvs, q1, q2⟩ | ⟨kvs, q1, q2⟩ | ⟨e, q⟩
  · obtain ⟨e1, e2⟩ := repK_noT q2 hk
    subst e1 e2
    exact ⟨[], empty_KT (rd_of I.hok (hide_sub.rd nt_dK q1)), .nil⟩
  · exact ⟨kvs, rd_of I.hok (hide_sub.rd nt_dT q1), q2⟩
  · subst q
    cases hk
theorem key_data {k : Key} (rk : Rep X.K a0 (hide H S) y (keyD k)) : y = kV k := by
  cases k with
  | inl i => exact rk.int_inv
  | inr x => exact rk.str_inv
theorem keyT_data {k : List Key} (rk : Rep X.K a0 (hide H S) y (keyT k)) : ∃ b, y = .ref b ∧ H b = some (.tup (k.map kV)) := by
  obtain ⟨b, xs, e, h, r⟩ := rk.tup_inv
  rw [repA_keys r] at h
  exact ⟨b, e, (of_hide h).2⟩
theorem dT_at {kvs : List (List Key × V)} (I : Inv X pins σ H s) (x : ObjOk X.prog X.w H s.heap a (.dT kvs)) : kvs.length ≤ sizeLine ∧ (a == sysModules) = false ∧
    ∃ xs, KT H kvs xs ∧ s.heap.DictOfH (tupleKind (mixKind X.prog X.w)) a xs := by
  obtain ⟨z, y, xs, r, o, es, ep, h1, h2, h3, h4, h5⟩ := x
  refine ⟨z, y, xs, r, o, es, ep, h1, h2, h3, h4, fun x hx => ?_, h5⟩
  have all : ∀ {l : List (List Key × V)} {m : List (List Key × Addr × Value)}, KT H l m → ∀ x ∈ m, (tupleKind (mixKind X.prog X.w)).is s.heap x.1 x.2.1 := by
    intro l m q
    induction q with
    | nil => intro x hx; exact nomatch hx
    | @cons p q ps qs hq t ih =>
      intro x hx
      rcases List.mem_cons.mp hx with e | hx
      · subst e
        exact key_of I.hok (by rw [← hq.1]; exact hq.2.1)
      · exact ih x hx
  exact all r x hx
theorem relD_isSome {K : PySem.W.Frag} {o : Option V} {q : Option PyData} (r : RelD K a0 H o q) : o.isSome = q.isSome := by
  cases o <;> cases q <;> first | rfl | exact r.elim
theorem relD_some {K : PySem.W.Frag} {o : Option V} {d : PyData} (r : RelD K a0 H o (some d)) : ∃ v, o = some v ∧ Rep K a0 H v d := by
  cases o with
  | none => exact r.elim
  | some v => exact ⟨v, rfl, r⟩
theorem kin_cases (hk : kinOk ps kd = true) : (∃ k, kd = keyD k ∧ (ps.all fun p => (toKey p.1).isSome) = true) ∨ ∃ k, kd = keyT k ∧ (ps.all fun p => (toKeyT p.1).isSome) = true := by
  unfold kinOk at hk
  rw [Bool.or_eq_true, Bool.and_eq_true, Bool.and_eq_true, Option.isSome_iff_exists, Option.isSome_iff_exists] at hk
  rcases hk with ⟨⟨k, e⟩, h⟩ | ⟨⟨k, e⟩, h⟩
  · exact .inl ⟨k, toKey_eq e, h⟩
  · exact .inr ⟨k, toKeyT_eq e, h⟩
/-- d[y] -/
theorem d_getD {d : PyData} {Q : Value → Shared → Prop} (hu : A.units + 1 < cLine) (I : Inv X pins σ H s) (r : Rep X.K a0 (hide H S) (.ref a) (.dict ps)) (rk : Rep X.K a0 (hide H S) y kd) (hk : kinOk ps kd = true) (hd : dget ps kd = some d) (ry : RelV y u)
    (h : ∀ v w' s', Inv X pins σ H s' → RelV v w' → Rep X.K a0 (hide H S) v d → Q w' s') : wpAny (model X.prog X.w) A (getItem (.ref a) u) Q E s := by
  rcases kin_cases hk with ⟨k, rfl, hk2⟩ | ⟨k, rfl, hk2⟩
  · obtain ⟨kvs, x, q⟩ := rdK I r hk2
    obtain ⟨z, hm, vs, rel, dd⟩ := x
    have g := q.get k
    rw [hd] at g
    obtain ⟨v, e, rv⟩ := relD_some g
    obtain ⟨w', hw, rw'⟩ := RelO.some_of (v := v) (o := valueAt vs k) (by rw [← e]; exact rel.val k)
    have := key_data rk; subst y
    exact wpAny_getItem_of (kV_is ry) dd.mapOf hw (h v w' _ (I.tok _) rw' rv)
  · obtain ⟨kvs, x, q⟩ := rdT I r hk2
    obtain ⟨z, hm, xs, rel, dd⟩ := dT_at I x
    have g := q.get k
    rw [hd] at g
    obtain ⟨v, e, rv⟩ := relD_some g
    obtain ⟨b, rfl, eb⟩ := keyT_data rk
    cases (show u = Value.ref b from ry)
    obtain ⟨w', hw, rw'⟩ := RelO.some_of (v := v) (o := (atKey xs k).map (·.2)) (by rw [← e]; exact rel.val k)
    obtain ⟨p, hp, hp2⟩ := Option.map_eq_some_iff.mp hw
    refine wpAny_getItem_heap (tupleKind_room_in1 hu) (key_of I.hok eb) dd hp ?_
    rw [hp2]
    exact h v w' _ (I.tok _) rw' rv
/-- y in d -/
theorem d_inD {Q : Value → Shared → Prop} (hu : A.units + 1 < cLine) (I : Inv X pins σ H s) (r : Rep X.K a0 (hide H S) (.ref a) (.dict ps)) (rk : Rep X.K a0 (hide H S) y kd) (hk : kinOk ps kd = true) (ry : RelV y u)
    (h : ∀ s', Inv X pins σ H s' → Q (.bool (dget ps kd).isSome) s') : wpAny (model X.prog X.w) A (compareOp .In u (.ref a)) Q E s := by
  rcases kin_cases hk with ⟨k, rfl, hk2⟩ | ⟨k, rfl, hk2⟩
  · obtain ⟨kvs, x, q⟩ := rdK I r hk2
    obtain ⟨z, hm, vs, rel, dd⟩ := x
    have := key_data rk; subst y
    refine wpAny_in_of (kV_is ry) hm dd.mapOf ?_
    rw [← (rel.val k).isSome_eq, relD_isSome (q.get k)]
    exact h _ (I.tok _)
  · obtain ⟨kvs, x, q⟩ := rdT I r hk2
    obtain ⟨z, hm, xs, rel, dd⟩ := dT_at I x
    obtain ⟨b, rfl, eb⟩ := keyT_data rk
    cases (show u = Value.ref b from ry)
    refine wpAny_in_heap (tupleKind_room_in1 hu) (key_of I.hok eb) hm dd ?_
    have e := (rel.val k).isSome_eq
    rw [Option.isSome_map] at e
    rw [← e, relD_isSome (q.get k)]
    exact h _ (I.tok _)
theorem d_notInD {Q : Value → Shared → Prop} (hu : A.units + 1 < cLine) (I : Inv X pins σ H s) (r : Rep X.K a0 (hide H S) (.ref a) (.dict ps)) (rk : Rep X.K a0 (hide H S) y kd) (hk : kinOk ps kd = true) (ry : RelV y u)
    (h : ∀ s', Inv X pins σ H s' → Q (.bool (!(dget ps kd).isSome)) s') : wpAny (model X.prog X.w) A (compareOp .NotIn u (.ref a)) Q E s := by
  rcases kin_cases hk with ⟨k, rfl, hk2⟩ | ⟨k, rfl, hk2⟩
  · obtain ⟨kvs, x, q⟩ := rdK I r hk2
    obtain ⟨z, hm, vs, rel, dd⟩ := x
    have := key_data rk; subst y
    refine wpAny_notIn_of (kV_is ry) hm dd.mapOf ?_
    rw [← (rel.val k).isSome_eq, relD_isSome (q.get k)]
    exact h _ (I.tok _)
  · obtain ⟨kvs, x, q⟩ := rdT I r hk2
    obtain ⟨z, hm, xs, rel, dd⟩ := dT_at I x
    obtain ⟨b, rfl, eb⟩ := keyT_data rk
    cases (show u = Value.ref b from ry)
    refine wpAny_notIn_heap (tupleKind_room_in1 hu) (key_of I.hok eb) hm dd ?_
    have e := (rel.val k).isSome_eq
    rw [Option.isSome_map] at e
    rw [← e, relD_isSome (q.get k)]
    exact h _ (I.tok _)
end

/-! ### in, not in: whatever the second is -/
def inD (x : PyData) : PyData → Option Bool
  | .dict ps => if kinOk ps x then some (dget ps x).isSome else none
  | y => inSq x y
section
variable {X : Cx} {c : Cfg} {E : XK} {pos : Pos}
theorem cmD_inD (hu : X.A.units + 65 < cLine) : CmD X c .In (fun x y => (inD x y).map PyData.bool) := by
  rintro pins s σ H x y v u Q I rx ry ⟨a0, S, R, dx, dy, d, w, r1, r2, e, k⟩
  dsimp only at e
  unfold inD at e
  split at e
  · split at e
    · rename_i hk
      cases e
      obtain ⟨a, ey, _⟩ := r2.dict_inv
      subst ey
      cases (show u = Value.ref a from ry)
      exact d_inD (by omega) I r2 r1 hk rx fun s' I' => ⟨.bl _, H, I', rfl, k _ _ w (.bl _)⟩
    · cases e
  · exact cmD_in hu pins s σ H x y v u Q I rx ry ⟨a0, S, R, dx, dy, d, w, r1, r2, e, k⟩
theorem cmD_notinD (hu : X.A.units + 65 < cLine) : CmD X c .NotIn (fun x y => (inD x y).map fun b => PyData.bool (!b)) := by
  rintro pins s σ H x y v u Q I rx ry ⟨a0, S, R, dx, dy, d, w, r1, r2, e, k⟩
  dsimp only at e
  unfold inD at e
  split at e
  · split at e
    · rename_i hk
      cases e
      obtain ⟨a, ey, _⟩ := r2.dict_inv
      subst ey
      cases (show u = Value.ref a from ry)
      exact d_notInD (by omega) I r2 r1 hk rx fun s' I' => ⟨.bl _, H, I', rfl, k _ _ w (.bl _)⟩
    · cases e
  · exact cmD_notin hu pins s σ H x y v u Q I rx ry ⟨a0, S, R, dx, dy, d, w, r1, r2, e, k⟩

/-! ### subscripts -/
def idxD : PyData → PyData → Option PyData
  | .list xs, .int i => atI xs i
  | .tuple xs, .int i => atI xs i
  | .str z, .int i => if z.length ≤ sizeLine then (atI z.cps.toList i).map fun q => .str ⟨#[q]⟩ else none
  | .dict ps, k => if kinOk ps k then dget ps k else none
  | _, _ => none
def isDictD : PyData → Bool
  | .dict _ => true
  | _ => false
theorem de_idx {a b : Expr} {da db : Den} (hu : X.A.units + 1 < cLine) (ha : DE X c E a da) (hb : DE X c E b db) (hs : PlainIx b := by exact fun _ _ => rfl) : DE X c E (.Subscript a b pos) (dBin idxD da db) := by
  have h1 : PE X (.Subscript a b pos) _ := pe_ix ix_seq ha hb hs
  have h2 : PE X (.Subscript a b pos) (fun σ H Q => tD X.K c E da σ H fun x H1 => tD X.K c E db σ H1 fun y H2 => ∃ a0 S ad ps kd d, x = .ref ad ∧ Rep X.K a0 (hide H2 S) x (.dict ps) ∧ Rep X.K a0 (hide H2 S) y kd ∧ kinOk ps kd = true ∧ dget ps kd = some d ∧ ∀ v, Rep X.K a0 (hide H2 S) v d → Q v H2) := by
    refine ⟨fun pins s σ H Q I h => ?_⟩
    refine subD_of PySem.F.slot_dict_getitem.lookup hs (thn (ha.run pins s σ H _ I h) fun u s1 ⟨x, H1, I1, rx, q1⟩ => thn (hb.run pins s1 σ H1 _ I1 q1) fun iv s2 ⟨y, H2, I2, ry, a0, S, ad, ps, kd, d, ex, rd, rk, hk, hd, q2⟩ => ?_)
    subst ex
    obtain rfl : u = Value.ref ad := rx
    refine ⟨?_, d_getD hu I2 rd rk hk hd ry fun v w' s3 I3 rw' rv => ⟨v, H2, I3, rw', q2 v rv⟩⟩
    rcases kin_cases hk with ⟨k, rfl, hk2⟩ | ⟨k, rfl, hk2⟩
    · obtain ⟨kvs, x, q⟩ := rdK I2 rd hk2
      obtain ⟨z, hm, vs, rel, dd⟩ := x
      exact dd.typeIs
    · obtain ⟨kvs, x, q⟩ := rdT I2 rd hk2
      obtain ⟨z, hm, xs, rel, dd⟩ := dT_at I2 x
      exact dd.typeIs
  refine PE.imp (PE.or h1 h2) fun σ H Q ⟨a0, S, ρ, R, w, en, p⟩ => ?_
  unfold dBin at p
  cases hr : da ρ R with
  | stuck =>
    rw [hr] at p
    exact p.elim
  | exc nm R1 =>
    rw [hr] at p
    refine .inl (tD_of w en ?_)
    rw [hr]
    exact p
  | ok dx R1 =>
    rw [hr, bind_ok] at p
    by_cases hd : ∃ ps, dx = .dict ps
    · obtain ⟨ps, rfl⟩ := hd
      refine .inr (tD_of w en ?_)
      rw [hr]
      intro v H1 w1 r1
      refine tD_of w1.here (en.mono w1.sub) (ends_back w1 (ends_next p fun y R2 p => p) fun y R2 p u H2 w2 r2 => ?_)
      obtain ⟨d, e, q⟩ := Ends.ofO p
      have e' : (if kinOk ps y = true then dget ps y else none) = some d := by cases y <;> exact e
      split at e'
      · rename_i hk
        obtain ⟨ad, ev, _⟩ := r1.dict_inv
        exact ⟨a0, S, ad, _, y, d, ev, r1.mono w2.sub, r2, hk, e', fun z rz => q z H2 (w1.trans w2) rz⟩
      · cases e'
    · refine .inl (tD_of w en ?_)
      rw [hr]
      intro v H1 w1 r1
      refine tD_of w1.here (en.mono w1.sub) (ends_back w1 (ends_next p fun y R2 p => p) fun y R2 p u H2 w2 r2 => ?_)
      obtain ⟨d, e, q⟩ := Ends.ofO p
      unfold idxD at e
      split at e
      · obtain ⟨ad, xs, rfl, h1, rA⟩ := r1.list_inv
        have := r2.int_inv; subst u
        obtain ⟨z, e1, e2⟩ := rA.atI e
        exact .inl ⟨ad, xs, _, z, rfl, rfl, .inl (.inl (of_hide (w2.sub _ _ h1 nt_lst)).2), e1, q z H2 (w1.trans w2) (e2.mono w2.sub)⟩
      · obtain ⟨ad, xs, rfl, h1, rA⟩ := r1.tup_inv
        have := r2.int_inv; subst u
        obtain ⟨z, e1, e2⟩ := rA.atI e
        exact .inr (.inl ⟨ad, xs, _, z, rfl, rfl, .inl (.inl (of_hide (w2.sub _ _ h1 nt_tup)).2), e1, q z H2 (w1.trans w2) (e2.mono w2.sub)⟩)
      · split at e
        · rename_i hl
          have := r1.str_inv; subst v
          have := r2.int_inv; subst u
          obtain ⟨z, e1, e2⟩ := Option.map_eq_some_iff.mp e
          subst e2
          exact .inr (.inr ⟨_, _, z, rfl, rfl, hl, e1, q _ H2 (w1.trans w2) (.str _)⟩)
        · cases e
      · exact absurd ⟨_, rfl⟩ hd
      · cases e
end
end Ev

/-! Ev: calls -/
namespace Ev
open PySem PySem.Spec PyProof.Rows L2

/-! ### defs of the text -/
def spD (K : PySem.W.Frag) (c : Cfg) (np : Nat) (F : List PyData → Row → Res PyData) : Sp := fun vs H Q E => ∃ a0 S R ds, ds.length = np ∧ Wd K c a0 S H H R ∧ RepA K a0 (hide H S) vs ds ∧
  Ends (F ds R) (fun d R' => ∀ v H', Wd K c a0 S H H' R' → Rep K a0 (hide H' S) v d → Q v H') (Ex K c E a0 S H)
structure Fn (P : Program) (w : World) (K : PySem.W.Frag) (mg : Str → Option Value) (base : Heap) (c : Cfg) (n : Nat) (x : Str) (ps : List Str) (F : List PyData → Row → Res PyData) : Prop where
  ex : ∃ f fd, FnOk P w K mg base (L2.CX P w) n f fd ps (spD K c ps.length F) ∧ mg x = some (.ref f) ∧ PySem.W.keepIn K (.ref f) = true ∧
    (∀ us : List Value, us.length = ps.length → bindArgs fd ⟨us, []⟩ = pure (ps.zip us)) ∧
    (∀ (us ws : List Value) (ks : List Str), ks = ps.drop us.length → (us ++ ws).length = ps.length → ws ≠ [] → bindArgs fd ⟨us, ks.zip ws⟩ = pure (ps.zip (us ++ ws)))
section
variable {X : Cx} {c : Cfg} {E : XK} {p pos : Pos}
def dCallF (F : List PyData → Row → Res PyData) (l : DenL) : Den := fun ρ R => (l ρ R).bind F
theorem de_call {x : Str} {ps : List Str} {n m : Nat} {F : List PyData → Row → Res PyData} {e : Expr} {es : List Expr} {l : DenL} (fn : Fn X.prog X.w X.K X.mg X.base c n x ps F) (hr : Room m X.A) (hnm : n ≤ m) (hx : Passes (L2.CX X.prog X.w) X E) (ha : DEs X c E (e :: es) l)
    (hl : ∀ ρ R ds R', l ρ R = .ok ds R' → ds.length = ps.length) (hg : Gl X x := by rfl)
    (hdb : (x == ("__debug__" : Str)) = false := by decide) (he : starEach (e :: es) X.env = (false, eval e X.env) :: starEach es X.env := by rfl) (hpl : (backTo pos (starEach es X.env)).any (·.1) = false := by rfl) :
    DE X c E (.Call (.Name x p) (e :: es) [] pos) (dCallF F l) := by
  obtain ⟨f, fd, ok, hm, hk, hb, _⟩ := fn.ex
  refine PE.imp (pe_call ok (hr.mono hnm) hg hm hk (Binds.all hb) .nil hx ha hdb he hpl) fun σ H Q ⟨a0, S, ρ, R, w, en, q⟩ => ?_
  have q0 := q
  unfold dCallF at q0
  cases hd : l ρ R with
  | stuck => rw [hd] at q0; exact q0.elim
  | exc nm R1 =>
    rw [hd] at q0
    refine tDL_of w en ?_
    rw [hd]
    exact q0
  | ok ds R1 =>
    rw [hd, bind_ok] at q0
    refine tDL_of w en ?_
    rw [hd]
    intro vs H1 w1 r1
    rw [List.append_nil]
    exact ⟨a0, S, R1, ds, hl _ _ _ _ hd, w1.here, r1, ends_back w1 q0 fun d R' k v H2 w2 => k v H2 (w1.trans w2)⟩
/-- f(a, .., k = v): the keywords are the last parameters in their order -/
def lApp (l k : DenL) : DenL := fun ρ R => (l ρ R).bind fun xs R1 => (k ρ R1).bind fun ys R2 => .ok (xs ++ ys) R2
def DK (X : Cx) (c : Cfg) (E : XK) (kws : List Keyword) (den : DenL) : Prop := PK X kws (tDL X.K c E den)
theorem PK.imp {kws : List Keyword} {t t' : TA} (h : PK X kws t) (m : ∀ σ H Q, t' σ H Q → t σ H Q) : PK X kws t' := ⟨fun pos pins s σ H Q I q => h.run pos pins s σ H Q I (m σ H Q q)⟩
theorem dk_nil : DK X c E [] lNil := PK.imp pk_nil fun σ H Q ⟨a0, S, ρ, R, w, en, p⟩ => p _ _ w .nil
theorem dk_cons {e : Expr} {nm : Option Str} {kpos : Pos} {kws : List Keyword} {d : Den} {r : DenL} (h : DE X c E e d) (hr : DK X c E kws r) : DK X c E (⟨nm, e, kpos⟩ :: kws) (lCons d r) :=
  PK.imp (pk_cons h hr) fun σ H Q ⟨a0, S, ρ, R, w, en, p⟩ => tD_of w en (ends_next p fun x R1 p v H1 w1 r1 =>
    tDL_of w1.here (en.mono w1.sub) (ends_back w1 (ends_next p fun y R2 p => p) fun y R2 p u H2 w2 r2 => p _ _ (w1.trans w2) (.cons (r1.mono w2.sub) r2)))
def gK {α : Type} (m j : Nat) (us ws : List α) : List α := if us.length = m ∧ ws.length = j then us ++ ws else []
theorem de_callK {x : Str} {ps ks : List Str} {n m i j : Nat} {F : List PyData → Row → Res PyData} {e : Expr} {es : List Expr} {kws : List Keyword} {l k : DenL} (fn : Fn X.prog X.w X.K X.mg X.base c n x ps F) (hr : Room m X.A) (hnm : n ≤ m) (hx : Passes (L2.CX X.prog X.w) X E) (ha : DEs X c E (e :: es) l) (hkw : DK X c E kws k)
    (hl : ∀ ρ R ds R', l ρ R = .ok ds R' → ds.length = i) (hlk : ∀ ρ R ds R', k ρ R = .ok ds R' → ds.length = j) (hks0 : ks = ps.drop i) (hj : ps.length = i + j) (hj0 : j ≠ 0) (hg : Gl X x := by rfl)
    (hall : (backToKw pos (keywordEach kws X.env)).all (·.1.isSome) = true := by rfl) (hks : (backToKw pos (keywordEach kws X.env)).filterMap (·.1) = ks := by rfl)
    (hdb : (x == ("__debug__" : Str)) = false := by decide) (he : starEach (e :: es) X.env = (false, eval e X.env) :: starEach es X.env := by rfl)
    (hpl : ((backTo pos (starEach (e :: es) X.env)).any (·.1) || (backToKw pos (keywordEach kws X.env)).any (·.1.isNone)) = false := by rfl) :
    DE X c E (.Call (.Name x p) (e :: es) kws pos) (dCallF F (lApp l k)) := by
  obtain ⟨f, fd, ok, hm, hk, _, hbk⟩ := fn.ex
  have KB : KBinds X.K fd ps ks (gK i j) (gK i j) := by
    refine ⟨fun s us ws _ hl' => ?_, fun {vs us zs ws} r1 r2 => ?_⟩
    · unfold gK at hl' ⊢
      by_cases cc : us.length = i ∧ ws.length = j
      · rw [if_pos cc] at hl' ⊢
        exact .of_eq (hbk us ws ks (by rw [cc.1]; exact hks0) hl' fun z => hj0 (by rw [← cc.2, z]; rfl))
      · rw [if_neg cc] at hl'
        exact absurd ((show 0 = ps.length from hl').trans hj) (by omega)
    · unfold gK
      rw [r1.length, r2.length]
      split
      · exact r1.append r2
      · exact .nil
  refine PE.imp (pe_callK ok (hr.mono hnm) hg hm hk KB hx ha hkw hall hks hdb he hpl) fun σ H Q ⟨a0, S, ρ, R, w, en, q⟩ => ?_
  have q0 := q
  unfold dCallF lApp at q0
  cases hd : l ρ R with
  | stuck => rw [hd] at q0; exact q0.elim
  | exc nm R1 =>
    rw [hd] at q0
    refine tDL_of w en ?_
    rw [hd]
    exact q0
  | ok ds R1 =>
    rw [hd, bind_ok] at q0
    refine tDL_of w en ?_
    rw [hd]
    intro vs H1 w1 r1
    cases hd2 : k ρ R1 with
    | stuck => rw [hd2] at q0; exact q0.elim
    | exc nm R2 =>
      rw [hd2] at q0
      refine tDL_of w1.here (en.mono w1.sub) ?_
      rw [hd2]
      exact Ex.back w1 q0
    | ok es R2 =>
      rw [hd2, bind_ok, bind_ok] at q0
      refine tDL_of w1.here (en.mono w1.sub) ?_
      rw [hd2]
      intro us H2 w2 r2
      have w12 := w1.trans w2
      have l1 := hl _ _ _ _ hd
      have l2 := hlk _ _ _ _ hd2
      have e0 : gK i j vs us = vs ++ us := if_pos ⟨r1.length.trans l1, r2.length.trans l2⟩
      rw [e0]
      exact ⟨a0, S, R2, ds ++ es, by rw [List.length_append, l1, l2, hj], w2.here, (r1.mono w2.sub).append r2, ends_back w12 q0 fun d R' k v H3 w3 => k v H3 (w12.trans w3)⟩
theorem len_nil : ∀ (ρ : Env) R ds R', lNil ρ R = .ok ds R' → ds.length = 0 := fun ρ R ds R' h => by cases h; rfl
theorem len_cons {d : Den} {r : DenL} {n : Nat} (h : ∀ ρ R ds R', r ρ R = .ok ds R' → ds.length = n) : ∀ (ρ : Env) R ds R', lCons d r ρ R = .ok ds R' → ds.length = n + 1 := fun ρ R ds R' e => by
  unfold lCons at e
  cases h1 : d ρ R with
  | stuck => rw [h1] at e; cases e
  | exc nm R1 => rw [h1] at e; cases e
  | ok x R1 =>
    rw [h1, bind_ok] at e
    cases h2 : r ρ R1 with
    | stuck => rw [h2] at e; cases e
    | exc nm R1 => rw [h2] at e; cases e
    | ok xs R2 =>
      rw [h2, bind_ok] at e
      cases e
      rw [List.length_cons, h _ _ _ _ h2]
/-! ### built-ins -/
def rC (K : PySem.W.Frag) (c : Cfg) (f : List PyData → Option PyData) : List V → Hp → VK → Prop := fun xs H Q => ∃ a0 S R ds d, Wd K c a0 S H H R ∧ RepA K a0 (hide H S) xs ds ∧ f ds = some d ∧ ∀ v H', Wd K c a0 S H H' R → Rep K a0 (hide H' S) v d → Q v H'
def rCN (K : PySem.W.Frag) (c : Cfg) (f : List PyData → Option (List PyData)) : List V → Hp → VK → Prop := fun xs H Q => ∃ a0 S R ds out, Wd K c a0 S H H R ∧ RepA K a0 (hide H S) xs ds ∧ f ds = some out ∧
  ∀ p vs H', Fr H p → Wd K c a0 S H H' R → H' p = some (.lst vs) → RepA K a0 (hide H' (p :: S)) vs out → Q (.ref p) H'
def BltD (X : Cx) (c : Cfg) (f : Value) (sem : List PyData → Option PyData) : Prop := CallR X f (rC X.K c sem)
def BltN (X : Cx) (c : Cfg) (f : Value) (sem : List PyData → Option (List PyData)) : Prop := CallR X f (rCN X.K c sem)
def dBlt (f : List PyData → Option PyData) (l : DenL) : Den := fun ρ R => (l ρ R).bind fun ds R1 => ofO (f ds) R1
def nBlt (f : List PyData → Option (List PyData)) (l : DenL) : DenL := fun ρ R => (l ρ R).bind fun ds R1 => ofO (f ds) R1
theorem tCB_of {K : PySem.W.Frag} {f : List PyData → Option PyData} {l : DenL} {σ : L2.St} {H : Hp} {Q : VK} (h : tD K c E (dBlt f l) σ H Q) : tCB (rC K c f) (tDL K c E l) σ H Q := by
  obtain ⟨a0, S, ρ, R, w, en, p⟩ := h
  refine tDL_of w en (ends_next p fun ds R1 p vs H1 w1 r1 => ?_)
  obtain ⟨d, e, q⟩ := Ends.ofO p
  exact ⟨a0, S, R1, ds, d, w1.here, r1, e, fun v H2 w2 r2 => q v H2 (w1.trans w2) r2⟩
theorem tCB_ofN {K : PySem.W.Frag} {f : List PyData → Option (List PyData)} {l : DenL} {σ : L2.St} {H : Hp} {Q : VK} (h : tDN K c E (nBlt f l) σ H Q) : tCB (rCN K c f) (tDL K c E l) σ H Q := by
  obtain ⟨a0, S, ρ, R, w, en, p⟩ := h
  refine tDL_of w en (ends_next p fun ds R1 p vs H1 w1 r1 => ?_)
  obtain ⟨d, e, q⟩ := Ends.ofO p
  refine ⟨a0, S, R1, ds, d, w1.here, r1, e, fun pp vs H2 hp w2 h2 r2 => q pp vs H2 (fun o eo n => ?_) (w1.trans w2) h2 r2⟩
  by_cases ea : pp = a0
  · subst ea
    obtain ⟨sc, h1, _⟩ := w1.row
    exact hp _ h1 nt_lst
  · exact hp o (w1.gr pp o ea eo n) n
theorem de_blt {x : Str} {id : String} {f : List PyData → Option PyData} {e : Expr} {es : List Expr} {l : DenL} (hc : BltD X c (.builtin id) f) (ha : DEs X c E (e :: es) l) (hm : X.mg x = none) (hv : bootBuiltins x = some (.builtin id) := by decide +kernel) (hg : Gl X x := by rfl) (hn : x ≠ "__name__" := by decide) (hdb : (x == ("__debug__" : Str)) = false := by decide)
    (he : starEach (e :: es) X.env = (false, eval e X.env) :: starEach es X.env := by rfl) (hpl : (backTo pos (starEach es X.env)).any (·.1) = false := by rfl) :
    DE X c E (.Call (.Name x p) (e :: es) [] pos) (dBlt f l) := PE.imp (pe_callB hc hg hm hv ha hn hdb he hpl) fun _ _ _ => tCB_of
theorem de_bty {x : Str} {T : String} {f : List PyData → Option PyData} {e : Expr} {es : List Expr} {l : DenL} (hc : BltD X c (.type T) f) (ha : DEs X c E (e :: es) l) (hm : X.mg x = none) (hv : bootBuiltins x = some (.type T) := by decide +kernel) (hg : Gl X x := by rfl) (hn : x ≠ "__name__" := by decide) (hdb : (x == ("__debug__" : Str)) = false := by decide)
    (he : starEach (e :: es) X.env = (false, eval e X.env) :: starEach es X.env := by rfl) (hpl : (backTo pos (starEach es X.env)).any (·.1) = false := by rfl) :
    DE X c E (.Call (.Name x p) (e :: es) [] pos) (dBlt f l) := PE.imp (pe_callTy hc hg hm hv ha hn hdb he hpl) fun _ _ _ => tCB_of
theorem dn_blt {x : Str} {id : String} {f : List PyData → Option (List PyData)} {e : Expr} {es : List Expr} {l : DenL} (hc : BltN X c (.builtin id) f) (ha : DEs X c E (e :: es) l) (hm : X.mg x = none) (hv : bootBuiltins x = some (.builtin id) := by decide +kernel) (hg : Gl X x := by rfl) (hn : x ≠ "__name__" := by decide) (hdb : (x == ("__debug__" : Str)) = false := by decide)
    (he : starEach (e :: es) X.env = (false, eval e X.env) :: starEach es X.env := by rfl) (hpl : (backTo pos (starEach es X.env)).any (·.1) = false := by rfl) :
    DN X c E (.Call (.Name x p) (e :: es) [] pos) (nBlt f l) := PE.imp (pe_callB hc hg hm hv ha hn hdb he hpl) fun _ _ _ => tCB_ofN
theorem dn_bty {x : Str} {T : String} {f : List PyData → Option (List PyData)} {e : Expr} {es : List Expr} {l : DenL} (hc : BltN X c (.type T) f) (ha : DEs X c E (e :: es) l) (hm : X.mg x = none) (hv : bootBuiltins x = some (.type T) := by decide +kernel) (hg : Gl X x := by rfl) (hn : x ≠ "__name__" := by decide) (hdb : (x == ("__debug__" : Str)) = false := by decide)
    (he : starEach (e :: es) X.env = (false, eval e X.env) :: starEach es X.env := by rfl) (hpl : (backTo pos (starEach es X.env)).any (·.1) = false := by rfl) :
    DN X c E (.Call (.Name x p) (e :: es) [] pos) (nBlt f l) := PE.imp (pe_callTy hc hg hm hv ha hn hdb he hpl) fun _ _ _ => tCB_ofN

/-! their rules -/
theorem repA_one {K : PySem.W.Frag} {a0 : Addr} {H : Hp} {xs : List V} {d : PyData} (r : RepA K a0 H xs [d]) : ∃ v, xs = [v] ∧ Rep K a0 H v d := by
  cases r with
  | cons h r => cases r; exact ⟨_, rfl, h⟩
theorem repA_two {K : PySem.W.Frag} {a0 : Addr} {H : Hp} {xs : List V} {d e : PyData} (r : RepA K a0 H xs [d, e]) : ∃ v u, xs = [v, u] ∧ Rep K a0 H v d ∧ Rep K a0 H u e := by
  cases r with
  | cons h r => obtain ⟨u, e, q⟩ := repA_one r; subst e; exact ⟨_, _, rfl, h, q⟩
def lenD : List PyData → Option PyData
  | [.list xs] => some (.int xs.length)
  | [.tuple xs] => some (.int xs.length)
  | [.str z] => if z.length ≤ sizeLine then some (.int z.length) else none
  | [.dict ps] => if (ps.all fun p => (toKey p.1).isSome) then some (.int ps.length) else none
  | _ => none
theorem blt_len : BltD X c (.builtin "len") lenD := by
  rintro pins s σ H xs us Q I rv ⟨a0, S, R, ds, d, w, r, e, k⟩
  unfold lenD at e
  split at e
  · cases e
    obtain ⟨v, rfl, r9⟩ := repA_one r
    obtain ⟨a, vs, rfl, h, rA⟩ := r9.list_inv
    exact call_len_seq pins s σ H _ us Q I rv ⟨a, vs, rfl, .inl (.inl (.inl (of_hide h).2)), by rw [rA.length]; exact k _ _ w (.int _)⟩
  · cases e
    obtain ⟨v, rfl, r9⟩ := repA_one r
    obtain ⟨a, vs, rfl, h, rA⟩ := r9.tup_inv
    exact call_len_seq pins s σ H _ us Q I rv ⟨a, vs, rfl, .inr (.inl (.inl (of_hide h).2)), by rw [rA.length]; exact k _ _ w (.int _)⟩
  · split at e
    · cases e
      obtain ⟨v, rfl, r9⟩ := repA_one r
      have := r9.str_inv; subst v
      exact call_len_str pins s σ H _ us Q I rv ⟨_, rfl, by assumption, k _ _ w (.int _)⟩
    · cases e
  · split at e
    · rename_i hk
      cases e
      obtain ⟨v, rfl, r9⟩ := repA_one r
      obtain ⟨a, rfl, _⟩ := r9.dict_inv
      cases rv with
      | cons r1 r2 =>
        cases r2
        rename_i u
        cases (show u = Value.ref a from r1)
        obtain ⟨kvs, x, q⟩ := rdK I r9 hk
        obtain ⟨z, hd, vs, rel, dd⟩ := x
        refine call_len_dict hd dd (by rw [← rel.length]; rw [sizeLine_eq] at z; omega) ?_
        rw [← rel.length, q.length]
        exact ⟨.int _, H, I.tok _, ⟨_, rfl⟩, k _ _ w (.int _)⟩
    · cases e
  · cases e
def intD : List PyData → Option PyData
  | [.int i] => some (.int i)
  | [.bool b] => some (.int (if b then 1 else 0))
  | _ => none
theorem blt_int : BltD X c (.type "int") intD := by
  rintro pins s σ H xs us Q I rv ⟨a0, S, R, ds, d, w, r, e, k⟩
  unfold intD at e
  split at e
  · cases e
    obtain ⟨v, rfl, r9⟩ := repA_one r
    have := r9.int_inv; subst v
    exact call_int1 pins s σ H _ us Q I rv (.inl ⟨_, rfl, k _ _ w (.int _)⟩)
  · cases e
    obtain ⟨v, rfl, r9⟩ := repA_one r
    have := r9.bool_inv; subst v
    exact call_int1 pins s σ H _ us Q I rv (.inr ⟨_, rfl, k _ _ w (.int _)⟩)
  · cases e
def absD : List PyData → Option PyData
  | [.int i] => some (.int (if i < 0 then -i else i))
  | _ => none
theorem blt_abs : BltD X c (.builtin "abs") absD := by
  rintro pins s σ H xs us Q I rv ⟨a0, S, R, ds, d, w, r, e, k⟩
  unfold absD at e
  split at e
  · cases e
    obtain ⟨v, rfl, r9⟩ := repA_one r
    have := r9.int_inv; subst v
    exact call_abs pins s σ H _ us Q I rv ⟨_, rfl, k _ _ w (.int _)⟩
  · cases e
def max2D : List PyData → Option PyData
  | [.int i, .int j] => some (.int (if j > i then j else i))
  | _ => none
def min2D : List PyData → Option PyData
  | [.int i, .int j] => some (.int (if j < i then j else i))
  | _ => none
theorem blt_max2 (hc : X.calm = true) : BltD X c (.builtin "max") max2D := by
  rintro pins s σ H xs us Q I rv ⟨a0, S, R, ds, d, w, r, e, k⟩
  unfold max2D at e
  split at e
  · cases e
    obtain ⟨v, u, rfl, r1, r2⟩ := repA_two r
    have := r1.int_inv; subst v
    have := r2.int_inv; subst u
    exact call_max2 hc pins s σ H _ us Q I rv ⟨_, _, rfl, k _ _ w (.int _)⟩
  · cases e
theorem blt_min2 (hc : X.calm = true) : BltD X c (.builtin "min") min2D := by
  rintro pins s σ H xs us Q I rv ⟨a0, S, R, ds, d, w, r, e, k⟩
  unfold min2D at e
  split at e
  · cases e
    obtain ⟨v, u, rfl, r1, r2⟩ := repA_two r
    have := r1.int_inv; subst v
    have := r2.int_inv; subst u
    exact call_min2 hc pins s σ H _ us Q I rv ⟨_, _, rfl, k _ _ w (.int _)⟩
  · cases e
/-! sums, all, any over a list -/
def isInt : PyData → Bool
  | .int _ => true
  | _ => false
def intOf : PyData → Int
  | .int i => i
  | _ => 0
def isBool : PyData → Bool
  | .bool _ => true
  | _ => false
def boolOf : PyData → Bool
  | .bool b => b
  | _ => false
theorem reps_int {K : PySem.W.Frag} {a0 : Addr} {H : Hp} : ∀ {xs : List V} {ds : List PyData}, RepA K a0 H xs ds → ds.all isInt = true → xs = (ds.map intOf).map V.int
  | _, _, .nil, _ => rfl
  | _, _, .cons (d := d) h r, e => by
    rw [List.all_cons, Bool.and_eq_true] at e
    cases d <;> first | (cases e.1; done) | skip
    rw [h.int_inv, reps_int r e.2]
    rfl
theorem reps_bool {K : PySem.W.Frag} {a0 : Addr} {H : Hp} : ∀ {xs : List V} {ds : List PyData}, RepA K a0 H xs ds → ds.all isBool = true → xs = (ds.map boolOf).map V.bl
  | _, _, .nil, _ => rfl
  | _, _, .cons (d := d) h r, e => by
    rw [List.all_cons, Bool.and_eq_true] at e
    cases d <;> first | (cases e.1; done) | skip
    rw [h.bool_inv, reps_bool r e.2]
    rfl
def sumD : List PyData → Option PyData
  | [.list ds] => if ds.all isInt then some (.int (ds.map intOf).sum) else none
  | [.tuple ds] => if ds.all isInt then some (.int (ds.map intOf).sum) else none
  | _ => none
/-- sum(t) of a tuple of ints -/
theorem cr_sumT (hc : X.calm = true) : CallR X (.builtin "sum") (fun vs H Q => ∃ (a : Addr) (ns : List Int), vs = [V.ref a] ∧ SqT X.K H a (ns.map V.int) ∧ Q (.int ns.sum) H) := by
  intro pins s σ H vs us Q I r h
  obtain ⟨a, ns, rfl, hs, q⟩ := h
  obtain ⟨its, rv, hl, _⟩ := I.tuple hs
  rw [Vals.ref1 r]
  have hi := rv.ints
  obtain ⟨xs, e⟩ := hi.allInts.items
  have hn : numsOf (intItems xs).toList = ns := by rw [← e]; exact hi.numsOf
  rw [nums_intItems] at hn
  rw [e] at hl
  refine PySem.W.ktm_sumG (I.ok.hd hc) hl fun h' tk t' hk => ⟨.int ns.sum, H, I.kept hk, ⟨t', ?_⟩, q⟩
  rw [preSum_eq, List.take_of_length_le (by simp), hn]
def allD : List PyData → Option PyData
  | [.list ds] => if ds.all isBool then some (.bool (ds.all boolOf)) else none
  | _ => none
def anyD : List PyData → Option PyData
  | [.list ds] => if ds.all isBool then some (.bool (ds.any boolOf)) else none
  | _ => none
theorem blt_sum (hc : X.calm = true) : BltD X c (.builtin "sum") sumD := by
  rintro pins s σ H xs us Q I rv ⟨a0, S, R, ds, d, w, r, e, k⟩
  unfold sumD at e
  split at e
  · split at e
    · rename_i hi
      cases e
      obtain ⟨v, rfl, r9⟩ := repA_one r
      obtain ⟨a, vs, rfl, h, rA⟩ := r9.list_inv
      rw [reps_int rA hi] at h
      exact cr_sum hc pins s σ H _ us Q I rv ⟨a, _, rfl, .inl (.inl (of_hide h).2), k _ _ w (.int _)⟩
    · cases e
  · split at e
    · rename_i hi
      cases e
      obtain ⟨v, rfl, r9⟩ := repA_one r
      obtain ⟨a, vs, rfl, h, rA⟩ := r9.tup_inv
      rw [reps_int rA hi] at h
      exact cr_sumT hc pins s σ H _ us Q I rv ⟨a, _, rfl, .inl (.inl (of_hide h).2), k _ _ w (.int _)⟩
    · cases e
  · cases e
theorem blt_all (hc : X.calm = true) : BltD X c (.builtin "all") allD := by
  rintro pins s σ H xs us Q I rv ⟨a0, S, R, ds, d, w, r, e, k⟩
  unfold allD at e
  split at e
  · split at e
    · rename_i hi
      cases e
      obtain ⟨v, rfl, r9⟩ := repA_one r
      obtain ⟨a, vs, rfl, h, rA⟩ := r9.list_inv
      rw [reps_bool rA hi] at h
      refine cr_all hc pins s σ H _ us Q I rv ⟨a, _, rfl, .inl (.inl (of_hide h).2), ?_⟩
      rw [List.all_map]
      exact k _ _ w (.bl _)
    · cases e
  · cases e
theorem blt_any (hc : X.calm = true) : BltD X c (.builtin "any") anyD := by
  rintro pins s σ H xs us Q I rv ⟨a0, S, R, ds, d, w, r, e, k⟩
  unfold anyD at e
  split at e
  · split at e
    · rename_i hi
      cases e
      obtain ⟨v, rfl, r9⟩ := repA_one r
      obtain ⟨a, vs, rfl, h, rA⟩ := r9.list_inv
      rw [reps_bool rA hi] at h
      refine cr_any hc pins s σ H _ us Q I rv ⟨a, _, rfl, .inl (.inl (of_hide h).2), ?_⟩
      rw [List.any_map]
      exact k _ _ w (.bl _)
    · cases e
  · cases e
/-! tuple, list -/
def tupleD : List PyData → Option PyData
  | [.list ds] => some (.tuple ds)
  | [.tuple ds] => some (.tuple ds)
  | _ => none
theorem blt_tuple : BltD X c (.type "tuple") tupleD := by
  rintro pins s σ H xs us Q I rv ⟨a0, S, R, ds, d, w, r, e, k⟩
  unfold tupleD at e
  split at e
  · cases e
    obtain ⟨v, rfl, r9⟩ := repA_one r
    obtain ⟨a, vs, rfl, h, rA⟩ := r9.list_inv
    exact call_tuple_of pins s σ H _ us Q I rv ⟨a, vs, rfl, .inl ⟨.inl (.inl (of_hide h).2), fun l hl => k _ _ (w.new hl) (new_repT w hl rA)⟩⟩
  · cases e
    obtain ⟨v, rfl, r9⟩ := repA_one r
    obtain ⟨a, vs, rfl, h, rA⟩ := r9.tup_inv
    exact call_tuple_of pins s σ H _ us Q I rv ⟨a, vs, rfl, .inr ⟨.inl (.inl (of_hide h).2), k _ _ w (.tup h rA)⟩⟩
  · cases e
def listD : List PyData → Option (List PyData)
  | [.list ds] => some ds
  | [.tuple ds] => some ds
  | _ => none
theorem blt_list : BltN X c (.type "list") listD := by
  rintro pins s σ H xs us Q I rv ⟨a0, S, R, ds, out, w, r, e, k⟩
  unfold listD at e
  split at e
  · cases e
    obtain ⟨v, rfl, r9⟩ := repA_one r
    obtain ⟨a, vs, rfl, h, rA⟩ := r9.list_inv
    exact call_list_of pins s σ H _ us Q I rv ⟨a, vs, rfl, .inl (.inl (.inl (of_hide h).2)), fun l hl => k _ _ _ (fun o eo => by rw [hl] at eo; cases eo) (w.new hl) upd_same (rA.mono (new_sub w hl))⟩
  · cases e
    obtain ⟨v, rfl, r9⟩ := repA_one r
    obtain ⟨a, vs, rfl, h, rA⟩ := r9.tup_inv
    exact call_list_of pins s σ H _ us Q I rv ⟨a, vs, rfl, .inr (.inl (.inl (of_hide h).2)), fun l hl => k _ _ _ (fun o eo => by rw [hl] at eo; cases eo) (w.new hl) upd_same (rA.mono (new_sub w hl))⟩
  · cases e
end
end Ev

/-! Ev: isinstance, min, max, sorted, slices -/
namespace Ev
open PySem PySem.Spec PyProof.Rows L2
section
variable {X : Cx} {c : Cfg} {E : XK} {p pos : Pos}
/-! ### isinstance(x, T), T the name of a built-in class -/
def isTy : String → PyData → Option Bool
  | "int", d => some d.isInt
  | "bool", d => some d.isBool
  | "tuple", d => some d.isTuple
  | "str", d => some d.isStr
  | "list", d => some d.isList
  | _, _ => none
def isiD (T : String) (d : PyData) : Option PyData := if dataD d then (isTy T d).map PyData.bool else none
def rIsiD (K : PySem.W.Frag) (c : Cfg) (T : String) : List V → Hp → VK → Prop := fun xs H Q => ∃ a0 S R x d b, xs = [x, .ty T] ∧ Wd K c a0 S H H R ∧ Rep K a0 (hide H S) x d ∧ isiD T d = some b ∧ ∀ v, Rep K a0 (hide H S) v b → Q v H
theorem call_isiD {T : String} : CallR X (.builtin "isinstance") (rIsiD X.K c T) := by
  rintro pins s σ H xs us Q I rv ⟨a0, S, R, x, d, b, rfl, w, r, e, k⟩
  cases rv with
  | cons r1 r2 =>
    cases r2 with
    | cons r3 r4 =>
      cases r4
      cases r3
      unfold isiD at e
      split at e
      · rename_i hd
        obtain ⟨as, q⟩ := Dp.reads I _ _ _ ((r.mono hide_sub).dp hd) r1
        obtain ⟨b', e1, e2⟩ := Option.map_eq_some_iff.mp e
        subst e2
        have fin : ∀ tk, EP X pins σ Q (.bool b') { s with toks := tk } := fun tk => ⟨.bl b', H, I.tok tk, rfl, k _ (.bl _)⟩
        unfold isTy at e1
        split at e1 <;> first | (cases e1; done) | (cases e1)
        · exact PySem.W.isinstance_int_data q fun tk _ => fin tk
        · exact PySem.W.isinstance_bool_data q fun tk _ => fin tk
        · exact PySem.W.isinstance_tuple_data q fun tk _ => fin tk
        · exact PySem.W.isinstance_str_data q fun tk _ => fin tk
        · exact PySem.W.isinstance_list_data q fun tk _ => fin tk
      · cases e
theorem de_isi {T : String} {Tn : Str} {a : Expr} {da : Den} {p2 : Pos} (ha : DE X c E a da) (hm : X.mg "isinstance" = none) (hmT : X.mg Tn = none) (hvT : bootBuiltins Tn = some (.type T) := by decide +kernel) (hgT : Gl X Tn := by rfl) (hg : Gl X "isinstance" := by rfl) (hnT : Tn ≠ "__name__" := by decide) (hdT : (Tn == ("__debug__" : Str)) = false := by decide)
    (he : starEach [a, .Name Tn p2] X.env = (false, eval a X.env) :: starEach [.Name Tn p2] X.env := by rfl) (he2 : starEach [.Name Tn p2] X.env = (false, eval (.Name Tn p2) X.env) :: starEach [] X.env := by rfl) (hpl : (backTo pos (starEach [.Name Tn p2] X.env)).any (·.1) = false := by rfl) :
    DE X c E (.Call (.Name "isinstance" p) [a, .Name Tn p2] [] pos) (dUn (isiD T) da) := by
  have hT : PE X (.Name Tn p2) (tC (.ty T)) := pe_bltn hgT hmT hvT (show RelV (.ty T) (.type T) from rfl) hnT hdT
  refine PE.imp (pe_callB (call_isiD (c := c) (T := T)) hg hm (by decide +kernel) (pa_cons ha (pa_cons hT pa_nil he2) he) (by decide) (by decide) he hpl) fun σ H Q ⟨a0, S, ρ, R, w, en, p⟩ => ?_
  refine tD_of w en (ends_next p fun x R1 p v H1 w1 r1 => ?_)
  obtain ⟨d, e, q⟩ := Ends.ofO p
  exact ⟨a0, S, R1, v, x, d, rfl, w1.here, r1, e, fun z rz => q z H1 w1 rz⟩

/-! ### the least, the greatest of a list, a tuple -/
def minTy (t : Ty) : List PyData → Option PyData
  | [.list (x :: xs)] => if (x :: xs).all (hasTy t) && (x :: xs).all (shp 8) then some (PySem.W.minD x xs) else none
  | [.tuple (x :: xs)] => if (x :: xs).all (hasTy t) && (x :: xs).all (shp 8) then some (PySem.W.minD x xs) else none
  | _ => none
def maxTy (t : Ty) : List PyData → Option PyData
  | [.list (x :: xs)] => if (x :: xs).all (hasTy t) && (x :: xs).all (shp 8) then some (PySem.W.maxD x xs) else none
  | [.tuple (x :: xs)] => if (x :: xs).all (hasTy t) && (x :: xs).all (shp 8) then some (PySem.W.maxD x xs) else none
  | _ => none
theorem alikeAll_ty {t : Ty} {xs : List PyData} (h : xs.all (hasTy t) = true) : PySem.W.AlikeAll xs := by
  rw [List.all_eq_true] at h
  exact ⟨fun x hx y hy => hasTy_alike t x y (h x hx) (h y hy), fun x hx => hasTy_nn (h x hx)⟩
theorem fold_pick {α : Type} (f : α → α → Bool) : ∀ (xs : List α) (x : α), xs.foldl (fun a y => if f a y then y else a) x ∈ x :: xs
  | [], x => List.mem_cons_self
  | y :: ys, x => by
    rw [List.foldl_cons]
    have h := fold_pick f ys (if f x y then y else x)
    rcases List.mem_cons.mp h with e | h
    · rw [e]
      split
      · exact List.mem_cons_of_mem _ List.mem_cons_self
      · exact List.mem_cons_self
    · exact List.mem_cons_of_mem _ (List.mem_cons_of_mem _ h)
theorem minD_mem (x : PyData) (xs : List PyData) : PySem.W.minD x xs ∈ x :: xs := fold_pick (fun a y => PySem.W.dataLt y a) xs x
theorem maxD_mem (x : PyData) (xs : List PyData) : PySem.W.maxD x xs ∈ x :: xs := fold_pick (fun a y => PySem.W.dataLt a y) xs x
theorem readsA {I : Prop} {pins : List (Addr × Obj)} {σ : L2.St} {H : Hp} {s : Shared} {K : PySem.W.Frag} : True := True.intro
/-- an item of the list that reads as a datum is the value that stands for that datum -/
theorem pick_rep {pins : List (Addr × Obj)} {σ : L2.St} {H : Hp} {s : Shared} {a0 : Addr} {S : List Addr} {xs : List V} {ds : List PyData} {us : List Value} {h' : Heap} {i : Nat} {v : Value} {m : PyData} {bs : List Addr} (I : Inv X pins σ H s) (rA : RepA X.K a0 (hide H S) xs ds) (rv : Vals xs us)
    (hs : ds.all (shp 8) = true) (hi : us[i]? = some v) (hr : Reads h' v m bs) (hk : ∀ b o, s.heap.get? b = some o → h'.get? b = some o) : ∃ x, RelV x v ∧ Rep X.K a0 (hide H S) x m := by
  have hl := rv.length
  have hix : i < us.length := (List.getElem?_eq_some_iff.mp hi).1
  have hxi : xs[i]? = some (xs[i]'(by omega)) := List.getElem?_eq_getElem _
  obtain ⟨u, e1, e2⟩ := rv.get hxi
  rw [hi] at e1
  cases e1
  obtain ⟨d, hd, rd⟩ := rA.getV hxi
  rw [List.all_eq_true] at hs
  have sd := hs d (List.mem_of_getElem? hd)
  obtain ⟨as, q⟩ := Dp.reads I _ _ _ ((rd.mono hide_sub).dp (shp_data sd)) e2
  have e := (Reads.unique hr d as (PyProof.Rows.Reads.keeps (fun b o => hk b o) q)).1.symm
  subst e
  exact ⟨_, e2, rd⟩
theorem depth_of {n : Nat} {xs : List PyData} (h : xs.all (shp n) = true) : PyData.depthAll xs ≤ n := by
  rw [List.all_eq_true] at h
  exact depthAll_le fun x hx => (shp_facts _ _ (h x hx)).2.1
theorem dataA_of {n : Nat} {xs : List PyData} (h : xs.all (shp n) = true) : dataA xs = true := by
  rw [List.all_eq_true] at h
  exact dataAll fun x hx => shp_data (h x hx)
theorem blt_minTy {t : Ty} (hc : X.calm = true) (hu : X.A.units + 64 < cLine) : BltD X c (.builtin "min") (minTy t) := by
  rintro pins s σ H xs us Q I rv ⟨a0, S, R, ds, d, w, r, e, k⟩
  unfold minTy at e
  split at e
  · split at e
    · rename_i hs
      cases e
      rw [Bool.and_eq_true] at hs
      obtain ⟨v, rfl, r9⟩ := repA_one r
      obtain ⟨a, vs, rfl, h, rA⟩ := r9.list_inv
      obtain ⟨its, rvs, hl, _⟩ := I.list (.inl (.inl (of_hide h).2))
      obtain ⟨as, hr⟩ := Dp.readsAll I _ _ its ((rA.mono hide_sub).dp (dataA_of hs.2)) rvs
      rw [Vals.ref1 rv]
      have hd := depth_of hs.2
      refine PySem.W.min_list_data (I.ok.hd hc) hl.isList (by simpa using hr) (alikeAll_ty hs.1) (by omega) fun i u h' tk bs hi hrd hk => ?_
      obtain ⟨x, e1, e2⟩ := pick_rep I rA rvs hs.2 (by simpa using hi) hrd hk
      exact ⟨x, H, I.kept hk, e1, k _ _ w e2⟩
    · cases e
  · split at e
    · rename_i hs
      cases e
      rw [Bool.and_eq_true] at hs
      obtain ⟨v, rfl, r9⟩ := repA_one r
      obtain ⟨a, vs, rfl, h, rA⟩ := r9.tup_inv
      obtain ⟨its, rvs, hl, _⟩ := I.tuple (.inl (.inl (of_hide h).2))
      obtain ⟨as, hr⟩ := Dp.readsAll I _ _ its ((rA.mono hide_sub).dp (dataA_of hs.2)) rvs
      rw [Vals.ref1 rv]
      have hd := depth_of hs.2
      refine PySem.W.min_tuple_data (I.ok.hd hc) hl (by simpa using hr) (alikeAll_ty hs.1) (by omega) fun i u h' tk bs hi hrd hk => ?_
      obtain ⟨x, e1, e2⟩ := pick_rep I rA rvs hs.2 (by simpa using hi) hrd hk
      exact ⟨x, H, I.kept hk, e1, k _ _ w e2⟩
    · cases e
  · cases e
theorem blt_maxTy {t : Ty} (hc : X.calm = true) (hu : X.A.units + 64 < cLine) : BltD X c (.builtin "max") (maxTy t) := by
  rintro pins s σ H xs us Q I rv ⟨a0, S, R, ds, d, w, r, e, k⟩
  unfold maxTy at e
  split at e
  · split at e
    · rename_i hs
      cases e
      rw [Bool.and_eq_true] at hs
      obtain ⟨v, rfl, r9⟩ := repA_one r
      obtain ⟨a, vs, rfl, h, rA⟩ := r9.list_inv
      obtain ⟨its, rvs, hl, _⟩ := I.list (.inl (.inl (of_hide h).2))
      obtain ⟨as, hr⟩ := Dp.readsAll I _ _ its ((rA.mono hide_sub).dp (dataA_of hs.2)) rvs
      rw [Vals.ref1 rv]
      have hd := depth_of hs.2
      refine PySem.W.max_list_data (I.ok.hd hc) hl.isList (by simpa using hr) (alikeAll_ty hs.1) (by omega) fun i u h' tk bs hi hrd hk => ?_
      obtain ⟨x, e1, e2⟩ := pick_rep I rA rvs hs.2 (by simpa using hi) hrd hk
      exact ⟨x, H, I.kept hk, e1, k _ _ w e2⟩
    · cases e
  · split at e
    · rename_i hs
      cases e
      rw [Bool.and_eq_true] at hs
      obtain ⟨v, rfl, r9⟩ := repA_one r
      obtain ⟨a, vs, rfl, h, rA⟩ := r9.tup_inv
      obtain ⟨its, rvs, hl, _⟩ := I.tuple (.inl (.inl (of_hide h).2))
      obtain ⟨as, hr⟩ := Dp.readsAll I _ _ its ((rA.mono hide_sub).dp (dataA_of hs.2)) rvs
      rw [Vals.ref1 rv]
      have hd := depth_of hs.2
      refine PySem.W.max_tuple_data (I.ok.hd hc) hl (by simpa using hr) (alikeAll_ty hs.1) (by omega) fun i u h' tk bs hi hrd hk => ?_
      obtain ⟨x, e1, e2⟩ := pick_rep I rA rvs hs.2 (by simpa using hi) hrd hk
      exact ⟨x, H, I.kept hk, e1, k _ _ w e2⟩
    · cases e
  · cases e
/-! ### sorted -/
def neTup : PyData → Bool
  | .tuple (_ :: _) => true
  | _ => false
def noTup : PyData → Bool
  | .tuple _ => false
  | _ => true
/-- the order of the sort -/
def leD (a b : PyData) : Bool := !PySem.W.dataLt b a
def sortTy (t : Ty) : List PyData → Option (List PyData)
  | [.list ds] => if ds.all (hasTy t) && ds.all (shp 8) && (ds.all neTup || ds.all noTup) && decide (ds.length ≤ sizeLine) then some (ds.mergeSort leD) else none
  | _ => none
theorem each_rep {K : PySem.W.Frag} {a0 : Addr} {H : Hp} : ∀ {xs : List V} {us : List Value} {ds : List PyData}, RepA K a0 H xs ds → Vals xs us → PySem.W.EachIs (fun v d => ∃ x, RelV x v ∧ Rep K a0 H x d) us ds
  | _, _, _, .nil, .nil => .nil
  | _, _, _, .cons h r, .cons q t => .cons ⟨_, q, h⟩ (each_rep r t)
theorem of_each {K : PySem.W.Frag} {a0 : Addr} {H : Hp} {us : List Value} {ds : List PyData} (h : PySem.W.EachIs (fun v d => ∃ x, RelV x v ∧ Rep K a0 H x d) us ds) : ∃ xs, RepA K a0 H xs ds ∧ Vals xs us := by
  induction h with
  | nil => exact ⟨[], .nil, .nil⟩
  | cons h t ih =>
    obtain ⟨x, h1, h2⟩ := h
    obtain ⟨xs, r, q⟩ := ih
    exact ⟨x :: xs, .cons h2 r, .cons h1 q⟩
theorem each_reads {pins : List (Addr × Obj)} {σ : L2.St} {H : Hp} {s : Shared} {a0 : Addr} {S : List Addr} (I : Inv X pins σ H s) : ∀ {xs : List V} {us : List Value} {ds : List PyData}, RepA X.K a0 (hide H S) xs ds → Vals xs us → ds.all (shp 8) = true →
    PySem.W.EachIs (fun v d => ∃ as, Reads s.heap v (id d) as) us ds
  | _, _, _, .nil, .nil, _ => .nil
  | _, _, _, .cons h r, .cons q t, e => by
    rw [List.all_cons, Bool.and_eq_true] at e
    exact .cons (Dp.reads I _ _ _ ((h.mono hide_sub).dp (shp_data e.1)) q) (each_reads I r t e.2)
theorem leD_eq : PySem.W.dataLe false (id : PyData → PyData) = leD := rfl
theorem blt_sorted {t : Ty} (hu : X.A.units + 64 < cLine) : BltN X c (.builtin "sorted") (sortTy t) := by
  rintro pins s σ H xs us Q I rv ⟨a0, S, R, ds, d, w, r, e, k⟩
  unfold sortTy at e
  split at e
  · split at e
    · rename_i es hs
      cases e
      simp only [Bool.and_eq_true, decide_eq_true_eq] at hs
      obtain ⟨⟨⟨h1, h2⟩, h3⟩, h4⟩ := hs
      obtain ⟨v, rfl, r9⟩ := repA_one r
      obtain ⟨a, vs, rfl, h, rA⟩ := r9.list_inv
      obtain ⟨its, rvs, hl, _⟩ := I.list (.inl (.inl (of_hide h).2))
      rw [Vals.ref1 rv]
      have ha := alikeAll_ty h1
      have hd := depth_of h2
      refine PySem.W.sorted_data (enc := id) (bs := es) (R := fun v d => ∃ x, RelV x v ∧ Rep X.K a0 (hide H S) x d) hl.isList (each_rep rA rvs) (each_reads I rA rvs h2) (by rw [List.map_id]; exact fun x hx y hy => ha.1 x hx y hy) ?_ h4 (fun b hb => ?_) fun out hlen hout => ?_
      · rw [List.map_id]
        rw [Bool.or_eq_true, List.all_eq_true, List.all_eq_true] at h3
        rcases h3 with h3 | h3
        · refine .inl fun d hd => ?_
          have q := h3 d hd
          unfold neTup at q
          split at q
          · exact ⟨_, _, rfl⟩
          · cases q
        · refine .inr fun d hd => ⟨ha.2 d hd, fun xs z => ?_⟩
          have q := h3 d hd
          rw [z] at q
          cases q
      · rw [List.all_eq_true] at h2
        have q := (shp_facts _ _ (h2 b hb)).2.1
        show X.A.units + 2 + b.depth < cLine
        omega
      · rw [leD_eq] at hout
        obtain ⟨ys, q1, q2⟩ := of_each hout
        obtain ⟨ep, he'⟩ := PyProof.Rows.sortedAll_at s.heap its out.toArray
        have hp : H (s.heap.objs.size + 1) = none := I.hok.fresh (Nat.le_succ _)
        have hz : ys.length ≤ sizeLine := by rw [q2.length, hlen]; exact h4
        refine ⟨.ref _, upd H (s.heap.objs.size + 1) (.lst ys), I.laid (t' := s.toks) (fun _ _ => PyProof.Rows.sortedAll_old) (Nat.le_succ _) ⟨hz, out, ep, q2, by simpa using he'⟩, rfl, ?_⟩
        exact k _ _ _ (fun o eo => by rw [hp] at eo; cases eo) (w.new hp) upd_same (q1.mono (new_sub w hp))
    · cases e
  · cases e
/-! ### slices -/
def DO (X : Cx) (c : Cfg) (E : XK) (e : Option Expr) (den : Env → Row → Res (Option Int)) : Prop := PO X e (fun σ H Q => ∃ a0 S ρ R, Wd X.K c a0 S H H R ∧ EnvR X.K a0 (hide H S) ρ σ ∧
  Ends (den ρ R) (fun o R' => ∀ H', Wd X.K c a0 S H H' R' → Q o H') (Ex X.K c E a0 S H))
theorem PO.imp {e : Option Expr} {t t' : TO} (h : PO X e t) (m : ∀ σ H Q, t' σ H Q → t σ H Q) : PO X e t' := ⟨fun pins s σ H Q I q => h.run pins s σ H Q I (m σ H Q q)⟩
def oNone : Env → Row → Res (Option Int) := fun _ R => .ok none R
def intQ : PyData → Option Int
  | .int i => some i
  | _ => none
def oSome (d : Den) : Env → Row → Res (Option Int) := fun ρ R => (d ρ R).bind fun x R1 => ofO ((intQ x).map some) R1
theorem do_none : DO X c E none oNone := PO.imp po_none fun σ H Q ⟨a0, S, ρ, R, w, en, p⟩ => p _ w
theorem do_some {e : Expr} {d : Den} (h : DE X c E e d) : DO X c E (some e) (oSome d) := PO.imp (po_some h) fun σ H Q ⟨a0, S, ρ, R, w, en, p⟩ => tD_of w en (ends_next p fun x R1 p v H1 w1 r1 => by
  obtain ⟨o, e, q⟩ := Ends.ofO p
  obtain ⟨i, e1, e2⟩ := Option.map_eq_some_iff.mp e
  subst e2
  cases x <;> simp only [intQ, reduceCtorEq, Option.some.injEq] at e1
  subst e1
  exact ⟨_, r1.int_inv, q H1 w1⟩)
def cutL {α : Type} (xs : List α) (lo hi : Option Int) : List α := (xs.drop (HT.sIx xs.length 0 lo)).take (HT.sIx xs.length xs.length hi - HT.sIx xs.length 0 lo)
theorem RepA.cut {K : PySem.W.Frag} {a0 : Addr} {H : Hp} {xs : List V} {ds : List PyData} (r : RepA K a0 H xs ds) (lo hi : Option Int) : RepA K a0 H (cutV xs lo hi) (cutL ds lo hi) := by
  unfold cutV cutL
  rw [r.length]
  exact (r.drop _).take _
def sliceD (x : PyData) (lo hi : Option Int) : Option PyData := match x with
  | .tuple ds => some (.tuple (cutL ds lo hi))
  | .list ds => some (.list (cutL ds lo hi))
  | _ => none
def sliceN (x : PyData) (lo hi : Option Int) : Option (List PyData) := match x with
  | .list ds => some (cutL ds lo hi)
  | _ => none
def dSlice (d : Den) (l h : Env → Row → Res (Option Int)) : Den := fun ρ R => (d ρ R).bind fun x R1 => (l ρ R1).bind fun lo R2 => (h ρ R2).bind fun hi R3 => ofO (sliceD x lo hi) R3
def nSlice (d : Den) (l h : Env → Row → Res (Option Int)) : DenL := fun ρ R => (d ρ R).bind fun x R1 => (l ρ R1).bind fun lo R2 => (h ρ R2).bind fun hi R3 => ofO (sliceN x lo hi) R3
theorem cut_all {α : Type} {xs : List α} {lo hi : Option Int} (h1 : HT.sIx xs.length 0 lo = 0) (h2 : HT.sIx xs.length xs.length hi = xs.length) : cutL xs lo hi = xs := by
  unfold cutL
  rw [h1, h2, List.drop_zero, Nat.sub_zero, List.take_length]
theorem de_slice {a : Expr} {lo hi : Option Expr} {p2 : Pos} {d : Den} {l h : Env → Row → Res (Option Int)} (ha : DE X c E a d) (hl : DO X c E lo l) (hh : DO X c E hi h) : DE X c E (.Subscript a (.Slice lo hi none p2) pos) (dSlice d l h) := by
  refine PE.imp (pe_slice (SlR.or sl_list sl_tupA) ha hl hh) fun σ H Q ⟨a0, S, ρ, R, w, en, p⟩ => ?_
  refine tD_of w en (ends_next p fun x R1 p v H1 w1 r1 => ?_)
  refine ⟨a0, S, ρ, R1, w1.here, en.mono w1.sub, ends_back w1 (ends_next p fun lo R2 p => p) fun lo R2 p H2 w2 => ?_⟩
  have w12 := w1.trans w2
  refine ⟨a0, S, ρ, R2, w2.here, (en.mono w1.sub).mono w2.sub, ends_back w12 (ends_next p fun hi R3 p => p) fun hi R3 p H3 w3 => ?_⟩
  have w13 := w12.trans w3
  have r3 := (r1.mono w2.sub).mono w3.sub
  obtain ⟨d, e, q⟩ := Ends.ofO p
  unfold sliceD at e
  split at e
  · cases e
    obtain ⟨ad, xs, rfl, h1, rA⟩ := r3.tup_inv
    refine .inr ⟨ad, xs, rfl, .inl (.inl (of_hide h1).2), fun z => ?_, fun _ p hp => ?_⟩
    · rw [rA.length] at z
      rw [cut_all z.1 z.2] at q
      exact q _ _ w13 (.tup h1 rA)
    · exact q _ _ (w13.trans (w3.here.new hp)) (new_repT w3.here hp (rA.cut lo hi))
  · cases e
    obtain ⟨ad, xs, rfl, h1, rA⟩ := r3.list_inv
    exact .inl ⟨ad, xs, rfl, .inl (.inl (of_hide h1).2), fun p hp => q _ _ (w13.trans (w3.here.new hp)) (new_rep w3.here hp (rA.cut lo hi))⟩
  · cases e
theorem dn_slice {a : Expr} {lo hi : Option Expr} {p2 : Pos} {d : Den} {l h : Env → Row → Res (Option Int)} (ha : DE X c E a d) (hl : DO X c E lo l) (hh : DO X c E hi h) : DN X c E (.Subscript a (.Slice lo hi none p2) pos) (nSlice d l h) := by
  refine PE.imp (pe_slice sl_list ha hl hh) fun σ H Q ⟨a0, S, ρ, R, w, en, p⟩ => ?_
  refine tD_of w en (ends_next p fun x R1 p v H1 w1 r1 => ?_)
  refine ⟨a0, S, ρ, R1, w1.here, en.mono w1.sub, ends_back w1 (ends_next p fun lo R2 p => p) fun lo R2 p H2 w2 => ?_⟩
  have w12 := w1.trans w2
  refine ⟨a0, S, ρ, R2, w2.here, (en.mono w1.sub).mono w2.sub, ends_back w12 (ends_next p fun hi R3 p => p) fun hi R3 p H3 w3 => ?_⟩
  have w13 := w12.trans w3
  have r3 := (r1.mono w2.sub).mono w3.sub
  obtain ⟨d, e, q⟩ := Ends.ofO p
  unfold sliceN at e
  split at e
  · cases e
    obtain ⟨ad, xs, rfl, h1, rA⟩ := r3.list_inv
    exact ⟨ad, xs, rfl, .inl (.inl (of_hide h1).2), fun p hp => q _ _ _ (w13.fr hp) (w13.trans (w3.here.new hp)) upd_same ((rA.cut lo hi).mono (new_sub w3.here hp))⟩
  · cases e
/-! lists by + and * -/
def catN : PyData → PyData → Option (List PyData)
  | .list xs, .list ys => if xs.length + ys.length ≤ sizeLine then some (xs ++ ys) else none
  | _, _ => none
def repN : PyData → PyData → Option (List PyData)
  | .list xs, .int k => if -(2 ^ 63) ≤ k ∧ k < 2 ^ 63 ∧ xs.length * k.toNat ≤ sizeLine then some (List.replicate k.toNat xs).flatten else none
  | _, _ => none
def nBin (f : PyData → PyData → Option (List PyData)) (da db : Den) : DenL := fun ρ R => (da ρ R).bind fun x R1 => (db ρ R1).bind fun y R2 => ofO (f x y) R2
theorem twoN {K : PySem.W.Frag} {f : PyData → PyData → Option (List PyData)} {r : R2} (hr : ∀ a0 S R x y dx dy out H H0 (Q : VK), Wd K c a0 S H0 H R → Rep K a0 (hide H S) x dx → Rep K a0 (hide H S) y dy → f dx dy = some out →
      (∀ p vs H', Fr H0 p → Wd K c a0 S H0 H' R → H' p = some (.lst vs) → RepA K a0 (hide H' (p :: S)) vs out → Q (.ref p) H') → r x y H Q) {da db : Den} {σ : L2.St} {H : Hp} {Q : VK} (h : tDN K c E (nBin f da db) σ H Q) : tOp r (tD K c E da) (tD K c E db) σ H Q := by
  obtain ⟨a0, S, ρ, R, w, en, p⟩ := h
  refine tD_of w en (ends_next p fun x R1 p v H1 w1 r1 => ?_)
  refine tD_of w1.here (en.mono w1.sub) (ends_back w1 (ends_next p fun y R2 p => p) fun y R2 p u H2 w2 r2 => ?_)
  obtain ⟨d, e, q⟩ := Ends.ofO p
  exact hr a0 S R2 v u x y d H2 H Q (w1.trans w2) (r1.mono w2.sub) r2 e q
theorem dn_cat {a b : Expr} {da db : Den} (ha : DE X c E a da) (hb : DE X c E b db) : DN X c E (.BinOp a .Add b pos) (nBin catN da db) := by
  refine PE.imp (pe_op op_cat ha hb) fun σ H Q h => twoN (fun a0 S R x y dx dy out H H0 Q w r1 r2 e k => ?_) h
  unfold catN at e
  split at e
  · split at e
    · rename_i hl
      cases e
      obtain ⟨a, vs, rfl, q1, q2⟩ := r1.list_inv
      obtain ⟨b, us, rfl, p1, p2⟩ := r2.list_inv
      exact ⟨a, b, vs, us, rfl, rfl, (of_hide q1).2, (of_hide p1).2, by rw [q2.length, p2.length]; exact hl, fun p hp => k _ _ _ (w.fr hp) (w.trans (w.here.new hp)) upd_same ((q2.append p2).mono (new_sub w.here hp))⟩
    · cases e
  · cases e
theorem dn_rep {a b : Expr} {da db : Den} (ha : DE X c E a da) (hb : DE X c E b db) : DN X c E (.BinOp a .Mult b pos) (nBin repN da db) := by
  refine PE.imp (pe_op op_rep ha hb) fun σ H Q h => twoN (fun a0 S R x y dx dy out H H0 Q w r1 r2 e k => ?_) h
  unfold repN at e
  split at e
  · split at e
    · rename_i hl
      cases e
      obtain ⟨a, vs, rfl, q1, q2⟩ := r1.list_inv
      have := r2.int_inv; subst y
      exact ⟨a, _, vs, rfl, rfl, (of_hide q1).2, hl.1, hl.2.1, by rw [q2.length]; exact hl.2.2, fun p hp => k _ _ _ (w.fr hp) (w.trans (w.here.new hp)) upd_same ((q2.flat _).mono (new_sub w.here hp))⟩
    · cases e
  · cases e
end
end Ev

/-! Ev: what is walked; comprehensions -/
namespace Ev
open PySem PySem.Spec PyProof.Rows L2
/-- an iterator over data: S is what it may not lean on -/
def Walks (K : PySem.W.Frag) (a0 : Addr) (S : List Addr) (J : It) (H1 : Hp) (ds : List PyData) : Prop :=
  ∀ S', Walk J ds.length (fun H => Sub (hide H1 S) (hide H S') ∧ ∀ b ∈ S', H b ≠ none) (fun i H x H' => (H' = H ∨ ∃ T xs, H T = none ∧ H' = upd H T (.tup xs)) ∧ ∃ d, ds[i]? = some d ∧ Rep K a0 (hide H' S') x d)
def tDI (K : PySem.W.Frag) (c : Cfg) (E : XK) (den : DenL) : TI := fun σ H Rr => ∃ a0 S ρ R, Wd K c a0 S H H R ∧ EnvR K a0 (hide H S) ρ σ ∧
  Ends (den ρ R) (fun ds R' => ∀ J H', Wd K c a0 S H H' R' → Walks K a0 S J H' ds → Rr J H') (Ex K c E a0 S H)
def DI (X : Cx) (c : Cfg) (E : XK) (tg iter : Expr) (den : DenL) : Prop := PI X tg iter (tDI X.K c E den)
theorem PI.imp {X : Cx} {tg iter : Expr} {t t' : TI} (h : PI X tg iter t) (m : ∀ σ H Q, t' σ H Q → t σ H Q) : PI X tg iter t' := ⟨fun pins s σ H Q I q => h.run pins s σ H Q I (m σ H Q q)⟩
theorem PI.or {X : Cx} {tg iter : Expr} {t t' : TI} (h : PI X tg iter t) (h' : PI X tg iter t') : PI X tg iter (fun σ H Q => t σ H Q ∨ t' σ H Q) := ⟨fun pins s σ H Q I q => q.elim (h.run pins s σ H Q I) (h'.run pins s σ H Q I)⟩

section
variable {K : PySem.W.Frag} {c : Cfg} {E : XK} {a0 : Addr} {S : List Addr} {H : Hp} {R : Row}
theorem walks_list {a : Addr} {xs : List V} {ds : List PyData} (h : hide H S a = some (.lst xs)) (r : RepA K a0 (hide H S) xs ds) : Walks K a0 S (Itl K a) H ds := by
  intro S'
  have up : ∀ H2, (Sub (hide H S) (hide H2 S') ∧ ∀ b ∈ S', H2 b ≠ none) → SqL K H2 a xs := fun H2 s => .inl (.inl (of_hide (s.1 _ _ h nt_lst)).2)
  have wl : Walk (Itl K a) ds.length (fun H2 => SqL K H2 a xs) (YAt xs) := by rw [← r.length]; exact walk_list
  exact wl.mono up fun i H2 x H' hi s y => by
    obtain ⟨e1, e2⟩ := y
    subst e1
    obtain ⟨d, h1, h2⟩ := r.getV e2
    exact ⟨.inl rfl, d, h1, h2.mono s.1⟩
theorem walks_tup {a : Addr} {xs : List V} {ds : List PyData} (h : hide H S a = some (.tup xs)) (r : RepA K a0 (hide H S) xs ds) : Walks K a0 S (Itt K a) H ds := by
  intro S'
  have up : ∀ H2, (Sub (hide H S) (hide H2 S') ∧ ∀ b ∈ S', H2 b ≠ none) → SqT K H2 a xs := fun H2 s => .inl (.inl (of_hide (s.1 _ _ h nt_tup)).2)
  have wl : Walk (Itt K a) ds.length (fun H2 => SqT K H2 a xs) (YAt xs) := by rw [← r.length]; exact walk_tup
  exact wl.mono up fun i H2 x H' hi s y => by
    obtain ⟨e1, e2⟩ := y
    subst e1
    obtain ⟨d, h1, h2⟩ := r.getV e2
    exact ⟨.inl rfl, d, h1, h2.mono s.1⟩
def rangeL (lo : Int) (n : Nat) : List PyData := (List.range n).map fun k => .int (lo + (k : Nat))
theorem walks_range {lo : Int} {n : Nat} : Walks K a0 S (Itr lo n) H (rangeL lo n) := by
  have e : (rangeL lo n).length = n := by unfold rangeL; simp
  intro S'
  rw [e]
  exact walk_range.mono (fun _ _ => True.intro) fun i H2 x H' hi s y => by
    obtain ⟨e1, e2⟩ := y
    subst e1 e2
    exact ⟨.inl rfl, .int (lo + (i : Nat)), by simp [rangeL, hi], .int _⟩
def rangeC (lo c : Int) (n : Nat) : List PyData := (List.range n).map fun k => .int (lo + (k : Nat) * c)
theorem walks_rangeC {lo cc : Int} {n : Nat} : Walks K a0 S (Itc lo cc n) H (rangeC lo cc n) := by
  have e : (rangeC lo cc n).length = n := by unfold rangeC; simp
  intro S'
  rw [e]
  exact walk_rangeC.mono (fun _ _ => True.intro) fun i H2 x H' hi s y => by
    obtain ⟨e1, e2⟩ := y
    subst e1 e2
    exact ⟨.inl rfl, .int (lo + (i : Nat) * cc), by simp [rangeC, hi], .int _⟩
/-- a new pair over a heap in which nothing hidden is made -/
theorem pair_rep {H2 : Hp} {T : Addr} {x y : V} {d e : PyData} (hT : H2 T = none) (nT : T ∉ S) (h1 : Rep K a0 (hide H2 S) x d) (h2 : Rep K a0 (hide H2 S) y e) : Rep K a0 (hide (upd H2 T (.tup [x, y])) S) (.ref T) (.tuple [d, e]) := by
  have s : Sub (hide H2 S) (hide (upd H2 T (.tup [x, y])) S) := fun b o h _ => by
    obtain ⟨nb, h⟩ := of_hide h
    rw [hide_out nb, upd_ne (ne_of_none h hT)]
    exact h
  exact .tup (hide_upd_out nT) (.cons (h1.mono s) (.cons (h2.mono s) .nil))
end
section
variable {X : Cx} {c : Cfg} {E : XK} {tg : Expr} {p pos tpos : Pos}
def seqD : PyData → Option (List PyData)
  | .list ds => some ds
  | .tuple ds => some ds
  | _ => none
def lSeq (d : Den) : DenL := fun ρ R => (d ρ R).bind fun x R1 => ofO (seqD x) R1
theorem di_seq {e : Expr} {d : Den} (h : DE X c E e d) : DI X c E tg e (lSeq d) := by
  refine PI.imp (PI.or (pi_list h) (pi_tup h)) fun σ H Q ⟨a0, S, ρ, R, w, en, p⟩ => ?_
  unfold lSeq at p
  cases hr : d ρ R with
  | stuck =>
    rw [hr] at p
    exact p.elim
  | exc nm R1 =>
    rw [hr] at p
    refine .inl (tD_of w en ?_)
    rw [hr]
    exact p
  | ok dx R1 =>
    rw [hr, bind_ok] at p
    obtain ⟨ds, e, q⟩ := Ends.ofO p
    cases dx <;> simp only [seqD, reduceCtorEq, Option.some.injEq] at e
    · subst e
      refine .inl (tD_of w en ?_)
      rw [hr]
      intro v H1 w1 r1
      obtain ⟨a, xs, rfl, h1, rA⟩ := r1.list_inv
      exact ⟨a, rfl, ⟨xs, .inl (.inl (of_hide h1).2)⟩, q _ _ w1 (walks_list h1 rA)⟩
    · subst e
      refine .inr (tD_of w en ?_)
      rw [hr]
      intro v H1 w1 r1
      obtain ⟨a, xs, rfl, h1, rA⟩ := r1.tup_inv
      exact ⟨a, rfl, ⟨xs, .inl (.inl (of_hide h1).2)⟩, q _ _ w1 (walks_tup h1 rA)⟩
def in62 (i : Int) : Prop := -(2 ^ 62) ≤ i ∧ i < 2 ^ 62
instance (i : Int) : Decidable (in62 i) := inferInstanceAs (Decidable (_ ∧ _))
def rangeD : List PyData → Option (List PyData)
  | [.int j] => if in62 j then some (rangeL 0 j.toNat) else none
  | [.int i, .int j] => if in62 i ∧ in62 j then some (rangeL i (j - i).toNat) else none
  | [.int i, .int j, .int (-1)] => if in62 i ∧ in62 j then some (rangeC i (-1) (i - j).toNat) else none
  | _ => none
theorem di_range1 {a : Expr} {l : DenL} (ha : DEs X c E [a] l) (hm : X.mg "range" = none) (hg : Gl X "range" := by rfl) (hs : starEach [a] X.env = [(false, eval a X.env)] := by rfl) : DI X c E tg (.Call (.Name "range" p) [a] [] pos) (fun ρ R => (l ρ R).bind fun xs R1 => if xs.length = 1 then ofO (rangeD xs) R1 else .stuck) := by
  refine PI.imp (pi_range1 hg hm ha hs) fun σ H Q ⟨a0, S, ρ, R, w, en, p⟩ => tDL_of w en (ends_next p fun xs R1 p vs H1 w1 r1 => ?_)
  split at p
  · rename_i hl
    obtain ⟨ds, e, q⟩ := Ends.ofO p
    unfold rangeD at e
    split at e
    · split at e
      · rename_i hj
        cases e
        obtain ⟨v, rfl, r9⟩ := repA_one r1
        have := r9.int_inv; subst v
        exact ⟨_, rfl, hj.1, hj.2, q _ _ w1 walks_range⟩
      · cases e
    · cases hl
    · cases hl
    · cases e
  · exact p.elim
theorem repA_three {K : PySem.W.Frag} {a0 : Addr} {H : Hp} {xs : List V} {d e f : PyData} (r : RepA K a0 H xs [d, e, f]) : ∃ v u z, xs = [v, u, z] ∧ Rep K a0 H v d ∧ Rep K a0 H u e ∧ Rep K a0 H z f := by
  cases r with
  | cons h r => obtain ⟨u, z, e, q⟩ := repA_two r; subst e; exact ⟨_, _, _, rfl, h, q⟩
theorem di_range2 {a b : Expr} {l : DenL} (ha : DEs X c E [a, b] l) (hm : X.mg "range" = none) (hg : Gl X "range" := by rfl) (hs : starEach [a, b] X.env = [(false, eval a X.env), (false, eval b X.env)] := by rfl) (hs2 : starEach [b] X.env = [(false, eval b X.env)] := by rfl) :
    DI X c E tg (.Call (.Name "range" p) [a, b] [] pos) (fun ρ R => (l ρ R).bind fun xs R1 => if xs.length = 2 then ofO (rangeD xs) R1 else .stuck) := by
  refine PI.imp (pi_range2 hg hm ha hs hs2) fun σ H Q ⟨a0, S, ρ, R, w, en, p⟩ => tDL_of w en (ends_next p fun xs R1 p vs H1 w1 r1 => ?_)
  split at p
  · rename_i hl
    obtain ⟨ds, e, q⟩ := Ends.ofO p
    unfold rangeD at e
    split at e
    · cases hl
    · split at e
      · rename_i hj
        cases e
        obtain ⟨v, u, rfl, r8, r9⟩ := repA_two r1
        have := r8.int_inv; subst v
        have := r9.int_inv; subst u
        exact ⟨_, _, rfl, ⟨hj.1.1, hj.1.2, hj.2.1, hj.2.2⟩, q _ _ w1 walks_range⟩
      · cases e
    · cases hl
    · cases e
  · exact p.elim
theorem di_range3 {a b d : Expr} {l : DenL} (ha : DEs X c E [a, b, d] l) (hm : X.mg "range" = none) (hg : Gl X "range" := by rfl) (hs : starEach [a, b, d] X.env = (false, eval a X.env) :: starEach [b, d] X.env := by rfl) (hpl : (backTo pos (starEach [b, d] X.env)).any (·.1) = false := by rfl) :
    DI X c E tg (.Call (.Name "range" p) [a, b, d] [] pos) (fun ρ R => (l ρ R).bind fun xs R1 => if xs.length = 3 then ofO (rangeD xs) R1 else .stuck) := by
  refine PI.imp (pi_range3 hg hm ha hs hpl) fun σ H Q ⟨a0, S, ρ, R, w, en, p⟩ => tDL_of w en (ends_next p fun xs R1 p vs H1 w1 r1 => ?_)
  split at p
  · rename_i hl
    obtain ⟨ds, e, q⟩ := Ends.ofO p
    unfold rangeD at e
    split at e
    · cases hl
    · cases hl
    · split at e
      · rename_i hj
        cases e
        obtain ⟨v, u, z, rfl, r8, r9, r10⟩ := repA_three r1
        have := r8.int_inv; subst v
        have := r9.int_inv; subst u
        have := r10.int_inv; subst z
        exact ⟨_, _, _, _, rfl, RgC.neg hj.1.1 hj.1.2 hj.2.1 hj.2.2, q _ _ w1 walks_rangeC⟩
      · cases e
    · cases e
  · exact p.elim

/-! ### targets -/
abbrev Tgt := PyData → Env → Option Env
/-- a target stores the slots vs, no other -/
def TgtOk (vs : List Nat) (t : Tgt) : Prop := ∀ d ρ ρ', t d ρ = some ρ' → ρ'.length = ρ.length ∧ ∀ i, i ∉ vs → ρ'[i]? = ρ[i]?
/-- what a target makes: vs are the slots that it stores -/
def tG (K : PySem.W.Frag) (vs : List Nat) (t : Tgt) : TG := fun v σ H Q => ∃ a0 S ρ d ρ', ρ.length = σ.length ∧ Rep K a0 (hide H S) v d ∧ t d ρ = some ρ' ∧
  ∀ σ', σ'.length = σ.length → (∀ i, i ∉ vs → σ'[i]? = σ[i]?) → (∀ i, i ∈ vs → ∀ d', ρ'[i]? = some (some d') → ∃ v', σ'[i]? = some (some v') ∧ Rep K a0 (hide H S) v' d') → Q σ' H
structure DG (X : Cx) (tg : Expr) (vs : List Nat) (t : Tgt) : Prop where
  pg : PG X tg (tG X.K vs t)
  ok : TgtOk vs t
theorem PG.imp {X : Cx} {tg : Expr} {t t' : TG} (h : PG X tg t) (m : ∀ v σ H Q, t' v σ H Q → t v σ H Q) : PG X tg t' := ⟨fun pins s σ H v u Q I r q => h.run pins s σ H v u Q I r (m v σ H Q q)⟩
theorem PG.or {X : Cx} {tg : Expr} {t t' : TG} (h : PG X tg t) (h' : PG X tg t') : PG X tg (fun v σ H Q => t v σ H Q ∨ t' v σ H Q) := ⟨fun pins s σ H v u Q I r q => q.elim (h.run pins s σ H v u Q I r) (h'.run pins s σ H v u Q I r)⟩
theorem EnvR.tgt {K : PySem.W.Frag} {a0 : Addr} {H : Hp} {ρ ρ' : Env} {σ σ' : L2.St} {vs : List Nat} {t : Tgt} {d : PyData} (en : EnvR K a0 H ρ σ) (ok : TgtOk vs t) (e : t d ρ = some ρ') (l : σ'.length = σ.length) (k : ∀ i, i ∉ vs → σ'[i]? = σ[i]?)
    (r : ∀ i, i ∈ vs → ∀ d', ρ'[i]? = some (some d') → ∃ v', σ'[i]? = some (some v') ∧ Rep K a0 H v' d') : EnvR K a0 H ρ' σ' := by
  obtain ⟨l', k'⟩ := ok d ρ ρ' e
  refine ⟨by rw [l', l, en.1], fun i d' h => ?_⟩
  by_cases hi : i ∈ vs
  · exact r i hi d' h
  · rw [k' i hi] at h
    rw [k i hi]
    exact en.2 i d' h
def gSet (i : Nat) : Tgt := fun d ρ => some (ρ.set i (some d))
theorem dg_name (i : Nat) {x : Str} (hN : X.N.Nodup) (hi : X.N[i]? = some x := by rfl) (hx : Loc X.env.scope x := by first | exact Or.inl rfl | exact Or.inr rfl) (hf : X.fn x = true ∨ X.env.scope.names.lookup x = some .local := by first | exact .inl rfl | exact .inr rfl) : DG X (.Name x pos) [i] (gSet i) where
  pg := PG.imp (pg_name hN hi hx hf) fun v σ H Q ⟨a0, S, ρ, d, ρ', l, r, e, k⟩ => by
    cases e
    refine k _ (by rw [List.length_set]) (fun j hj => List.getElem?_set_ne fun z => hj (by rw [← z]; exact List.mem_cons_self)) fun j hj d' h => ?_
    have : j = i := by simpa using hj
    subst this
    have hlt : j < ρ.length := by
      have := (List.getElem?_eq_some_iff.mp h).1
      rwa [List.length_set] at this
    rw [List.getElem?_set_self hlt] at h
    cases h
    exact ⟨v, by rw [List.getElem?_set_self (by rw [← l]; exact hlt)], r⟩
  ok := fun d ρ ρ' e => by
    cases e
    exact ⟨by rw [List.length_set], fun j hj => List.getElem?_set_ne fun z => hj (by rw [← z]; exact List.mem_cons_self)⟩
/-- several names -/
abbrev Tgts := List PyData → Env → Option Env
def TgtsOk (vs : List Nat) (t : Tgts) : Prop := ∀ d ρ ρ', t d ρ = some ρ' → ρ'.length = ρ.length ∧ ∀ i, i ∉ vs → ρ'[i]? = ρ[i]?
def tGs (K : PySem.W.Frag) (vs : List Nat) (t : Tgts) : TGs := fun us σ H Q => ∃ a0 S ρ ds ρ', ρ.length = σ.length ∧ RepA K a0 (hide H S) us ds ∧ t ds ρ = some ρ' ∧
  ∀ σ', σ'.length = σ.length → (∀ i, i ∉ vs → σ'[i]? = σ[i]?) → (∀ i, i ∈ vs → ∀ d', ρ'[i]? = some (some d') → ∃ v', σ'[i]? = some (some v') ∧ Rep K a0 (hide H S) v' d') → Q σ' H
structure DGs (X : Cx) (ts : List Expr) (vs : List Nat) (t : Tgts) : Prop where
  pg : PGs X ts (tGs X.K vs t)
  ok : TgtsOk vs t
theorem PGs.imp {X : Cx} {tg : List Expr} {t t' : TGs} (h : PGs X tg t) (m : ∀ v σ H Q, t' v σ H Q → t v σ H Q) : PGs X tg t' := ⟨fun pins s σ H v u Q I r q => h.run pins s σ H v u Q I r (m v σ H Q q)⟩
def gsNil : Tgts := fun ds ρ => if ds.isEmpty then some ρ else none
def gsCons (t : Tgt) (u : Tgts) : Tgts := fun ds ρ => match ds with
  | d :: r => (t d ρ).bind fun ρ1 => u r ρ1
  | [] => none
theorem dgs_nil : DGs X [] [] gsNil where
  pg := PGs.imp pgs_nil fun v σ H Q ⟨a0, S, ρ, ds, ρ', l, r, e, k⟩ => by
    cases ds with
    | nil =>
      cases r
      cases e
      exact ⟨rfl, k _ rfl (fun _ _ => rfl) fun i hi => by cases hi⟩
    | cons d ds => cases e
  ok := fun d ρ ρ' e => by
    unfold gsNil at e
    split at e
    · cases e; exact ⟨rfl, fun _ _ => rfl⟩
    · cases e
theorem dgs_cons {e : Expr} {es : List Expr} {vs us : List Nat} {t : Tgt} {u : Tgts} (h1 : DG X e vs t) (h2 : DGs X es us u) (hs : (assignEach (e :: es) X.env).map (·.2) = assign e X.env :: (assignEach es X.env).map (·.2) := by rfl) : DGs X (e :: es) (vs ++ us) (gsCons t u) where
  pg := PGs.imp (pgs_cons h1.pg h2.pg hs) fun v σ H Q ⟨a0, S, ρ, ds, ρ', l, r, e, k⟩ => by
    cases r with
    | nil => cases e
    | @cons v vr d dr h r =>
      obtain ⟨ρ1, e1, e2⟩ := Option.bind_eq_some_iff.mp e
      obtain ⟨p1, p2⟩ := h1.ok _ _ _ e1
      obtain ⟨p3, p4⟩ := h2.ok _ _ _ e2
      refine ⟨v, vr, rfl, a0, S, ρ, d, ρ1, l, h, e1, fun σ1 l1 k1 r1 => ?_⟩
      refine ⟨a0, S, ρ1, dr, ρ', by rw [p1, l1, l], r, e2, fun σ2 l2 k2 r2 => k σ2 (l2.trans l1) (fun i hi => (k2 i fun z => hi (List.mem_append_right _ z)).trans (k1 i fun z => hi (List.mem_append_left _ z))) fun i hi d' h' => ?_⟩
      by_cases hu : i ∈ us
      · exact r2 i hu d' h'
      · rcases List.mem_append.mp hi with z | z
        · rw [p4 i hu] at h'
          rw [k2 i hu]
          exact r1 i z d' h'
        · exact absurd z hu
  ok := fun d ρ ρ' e => by
    cases d with
    | nil => cases e
    | cons d dr =>
      obtain ⟨ρ1, e1, e2⟩ := Option.bind_eq_some_iff.mp e
      obtain ⟨p1, p2⟩ := h1.ok _ _ _ e1
      obtain ⟨p3, p4⟩ := h2.ok _ _ _ e2
      exact ⟨p3.trans p1, fun i hi => (p4 i fun z => hi (List.mem_append_right _ z)).trans (p2 i fun z => hi (List.mem_append_left _ z))⟩
def gTupD (n : Nat) (t : Tgts) : Tgt := fun d ρ => match d with
  | .tuple ds => if ds.length = n then t ds ρ else none
  | .list ds => if ds.length = n then t ds ρ else none
  | _ => none
theorem dg_tup {es : List Expr} {k n : Nat} {vs : List Nat} {t : Tgts} (hc : X.calm = true) (h : DGs X es vs t) (hn : (assignEach es X.env).length = n := by rfl) (hst : (assignEach es X.env).findIdx? (·.1) = none := by rfl) : DG X (.Tuple es k pos) vs (gTupD n t) where
  pg := PG.imp (PG.or (pg_tup hc h.pg hn hst) (pg_lst hc h.pg hn hst)) fun v σ H Q ⟨a0, S, ρ, d, ρ', l, r, e, k⟩ => by
    unfold gTupD at e
    split at e
    · split at e
      · rename_i hl
        obtain ⟨a, xs, rfl, h1, rA⟩ := r.tup_inv
        exact .inl ⟨a, xs, rfl, .inl (.inl (of_hide h1).2), rA.length.trans hl, a0, S, ρ, _, ρ', l, rA, e, k⟩
      · cases e
    · split at e
      · rename_i hl
        obtain ⟨a, xs, rfl, h1, rA⟩ := r.list_inv
        exact .inr ⟨a, xs, rfl, .inl (.inl (of_hide h1).2), rA.length.trans hl, a0, S, ρ, _, ρ', l, rA, e, k⟩
      · cases e
    · cases e
  ok := fun d ρ ρ' e => by
    unfold gTupD at e
    split at e
    · split at e
      · exact h.ok _ _ _ e
      · cases e
    · split at e
      · exact h.ok _ _ _ e
      · cases e
    · cases e
end
end Ev

/-! Ev: comprehensions -/
namespace Ev
open PySem PySem.Spec PyProof.Rows L2
section
variable {K : PySem.W.Frag} {c : Cfg} {a0 : Addr} {S S' : List Addr} {H0 H H1 : Hp} {R R1 : Row} {D : Addr}
/-- tables stay where no table, no code object is touched -/
theorem tabs_keep {T : List (Addr × Str)} (t : LamX.Tabs T H) (k : ∀ b o, H b = some o → (∀ xs, o ≠ .lst xs) → H1 b = some o) : LamX.Tabs T H1 := fun p hp => by
  obtain ⟨ps, h1, h2, h3⟩ := t p hp
  refine ⟨ps, k _ _ h1 (fun xs z => by cases z), h2, fun pos cv hc => ?_⟩
  obtain ⟨cc, e1, e2⟩ := h3 pos cv hc
  exact ⟨cc, e1, k _ _ e2 (fun xs z => by unfold LamX.CodeO at z; cases z)⟩
theorem Wd.add (w : Wd K c a0 S H H R) {o : HO} (h : H D = some o) (n : notTbl o) : Wd K c a0 (D :: S) H H R where
  a0S := List.mem_cons_of_mem _ w.a0S
  sS := fun b hb => by
    rcases List.mem_cons.mp hb with e | hb
    · subst e; exact ⟨o, h, n⟩
    · exact w.sS b hb
  gr := w.gr
  row := w.row
  tabs := w.tabs
theorem Wd.less (w : Wd K c a0 S' H0 H R) (hs : ∀ b ∈ S, b ∈ S') (ha : a0 ∈ S) : Wd K c a0 S H0 H R where
  a0S := ha
  sS := fun b hb => w.sS b (hs b hb)
  gr := w.gr
  row := w.row
  tabs := w.tabs
/-- a list that is new since H0 is changed -/
theorem Wd.put (w : Wd K c a0 S H0 H R) (hf : Fr H0 D) {xs ys : List V} (h : H D = some (.lst xs)) (ha : D ≠ a0) : Wd K c a0 S H0 (upd H D (.lst ys)) R where
  a0S := w.a0S
  sS := w.sS
  gr := fun b o e h' n => by
    rw [upd_ne fun z => by subst z; exact hf o h' n]
    exact w.gr b o e h' n
  row := by
    obtain ⟨sc, e, f⟩ := w.row
    refine ⟨sc, by rw [upd_ne (Ne.symm ha)]; exact e, f.mono fun o u z => ?_⟩
    rw [upd_ne fun q => by subst q; rw [h] at z; cases z]
    exact z
  tabs := tabs_keep w.tabs fun b o e n => by
    rw [upd_ne fun q => by subst q; rw [h] at e; cases e; exact n _ rfl]
    exact e
theorem Wd.ne (w : Wd K c a0 S H H R) : ∀ b ∈ S, H b ≠ none := fun b hb z => by
  obtain ⟨o, e, _⟩ := w.sS b hb
  rw [z] at e
  cases e
end

def wipeE (ρ : Env) : List Nat → Env
  | [] => ρ
  | v :: vs => (wipeE ρ vs).set v none
theorem wipeE_len (ρ : Env) : ∀ vs : List Nat, (wipeE ρ vs).length = ρ.length
  | [] => rfl
  | v :: vs => by rw [wipeE, List.length_set, wipeE_len ρ vs]
theorem EnvR.wipe {K : PySem.W.Frag} {a0 : Addr} {H : Hp} {ρ : Env} {σ : L2.St} (en : EnvR K a0 H ρ σ) : ∀ vs : List Nat, EnvR K a0 H (wipeE ρ vs) (L2.wipe σ vs)
  | [] => en
  | v :: vs => by
    have ih := EnvR.wipe en vs
    refine ⟨by rw [wipeE, L2.wipe, List.length_set, List.length_set, ih.1], fun j d h => ?_⟩
    rw [wipeE] at h
    rw [L2.wipe]
    by_cases hj : v = j
    · subst hj
      by_cases hv : v < (wipeE ρ vs).length
      · rw [List.getElem?_set_self hv] at h
        cases h
      · rw [List.getElem?_eq_none (by rw [List.length_set]; omega)] at h
        cases h
    · rw [List.getElem?_set_ne hj] at h ⊢
      exact ih.2 j d h
theorem wipe_same {σ σ' : L2.St} (hl : σ'.length = σ.length) : ∀ {vs : List Nat}, (∀ i, i ∉ vs → σ'[i]? = σ[i]?) → L2.wipe σ' vs = L2.wipe σ vs := by
  intro vs h
  have len : ∀ (τ : L2.St), (L2.wipe τ vs).length = τ.length := fun τ => wipe_length τ vs
  have out : ∀ (τ : L2.St) (i : Nat), i ∉ vs → (L2.wipe τ vs)[i]? = τ[i]? := by
    clear h len
    intro τ
    induction vs with
    | nil => intro i _; rfl
    | cons v vs ih =>
      intro i hi
      rw [L2.wipe, List.getElem?_set_ne fun z => hi (by rw [z]; exact List.mem_cons_self)]
      exact ih i fun z => hi (List.mem_cons_of_mem _ z)
  have inn : ∀ (τ : L2.St) (i : Nat), i ∈ vs → i < τ.length → (L2.wipe τ vs)[i]? = some none := by
    clear h len out
    intro τ
    induction vs with
    | nil => intro i hi; cases hi
    | cons v vs ih =>
      intro i hi hl
      rw [L2.wipe]
      by_cases e : v = i
      · subst e
        rw [List.getElem?_set_self (by rw [wipe_length]; exact hl)]
      · rw [List.getElem?_set_ne e]
        rcases List.mem_cons.mp hi with z | z
        · exact absurd z.symm e
        · exact ih i z hl
  apply List.ext_getElem?
  intro i
  by_cases hi : i ∈ vs
  · by_cases hlt : i < σ.length
    · rw [inn σ' i hi (by omega), inn σ i hi hlt]
    · rw [List.getElem?_eq_none (by rw [len]; omega), List.getElem?_eq_none (by rw [len]; omega)]
  · rw [out σ' i hi, out σ i hi, h i hi]
theorem wipe_wipe (σ : L2.St) (vs : List Nat) : L2.wipe (L2.wipe σ vs) vs = L2.wipe σ vs := wipe_same (wipe_length σ vs) fun i hi => by
  induction vs with
  | nil => rfl
  | cons v vs ih =>
    rw [L2.wipe, List.getElem?_set_ne fun z => hi (by rw [z]; exact List.mem_cons_self)]
    exact ih fun z => hi (List.mem_cons_of_mem _ z)

/-! ### the turns of a comprehension -/
def compM (f : PyData → Row → Res (List PyData)) : List PyData → Row → Res (List PyData)
  | [], R => .ok [] R
  | d :: ds, R => match f d R with
    | .ok o R1 => (compM f ds R1).bind fun r R2 => .ok (o ++ r) R2
    | _ => .stuck
def bYes : DenB := fun _ R => .ok true R
def turnC (tgt : Tgt) (vs : List Nat) (tt : DenB) (elt : Den) (ρ : Env) (d : PyData) (R : Row) : Res (List PyData) := match tgt d (wipeE ρ vs) with
  | none => .stuck
  | some ρ' => (tt ρ' R).bind fun b R1 => if b then (elt ρ' R1).bind fun y R2 => .ok [y] R2 else .ok [] R1
def nComp (it : DenL) (tgt : Tgt) (vs : List Nat) (tt : DenB) (elt : Den) : DenL := fun ρ R => (it ρ R).bind fun ds R1 => (compM (turnC tgt vs tt elt ρ) ds R1).bind fun xs R2 => if xs.length ≤ sizeLine then .ok xs R2 else .stuck
def EF : XK := fun _ _ _ => False
def DTs (X : Cx) (c : Cfg) (E : XK) (ifs : List Expr) (den : DenB) : Prop := PTs X ifs (tDB X.K c E den)
theorem PTs.imp {X : Cx} {ifs : List Expr} {t t' : TT} (h : PTs X ifs t) (m : ∀ σ H Q, t' σ H Q → t σ H Q) : PTs X ifs t' := ⟨fun pins s σ H Q I q => h.run pins s σ H Q I (m σ H Q q)⟩
theorem dts_nil {X : Cx} {c : Cfg} {E : XK} : DTs X c E [] bYes := PTs.imp pts_nil fun σ H Q ⟨a0, S, ρ, R, w, en, p⟩ => p H w
theorem dts_one {X : Cx} {c : Cfg} {E : XK} {t : Expr} {d : DenB} (h : DT X c E t d) : DTs X c E [t] d := pts_one h
theorem compM_cons {f : PyData → Row → Res (List PyData)} {d : PyData} {ds : List PyData} {R : Row} {out : List PyData} {Rn : Row} (h : compM f (d :: ds) R = .ok out Rn) : ∃ o R1 r, f d R = .ok o R1 ∧ compM f ds R1 = .ok r Rn ∧ out = o ++ r := by
  unfold compM at h
  split at h
  · rename_i o R1 e
    cases h2 : compM f ds R1 with
    | ok r R2 =>
      rw [h2, bind_ok] at h
      cases h
      exact ⟨o, R1, r, e, h2, rfl⟩
    | exc nm R2 => rw [h2] at h; cases h
    | stuck => rw [h2] at h; cases h
  · cases h
section
variable {X : Cx} {c : Cfg} {E : XK} {pos : Pos}
theorem comp_go {K : PySem.W.Frag} {a0 : Addr} {S : List Addr} {J : It} {H1 : Hp} {ds out : List PyData} {ρ : Env} {σ : L2.St} {R1 Rn : Row} {tgt : Tgt} {vs : List Nat} {tt : DenB} {elt : Den} {D : Addr} {Qd : Hp → Prop}
    (tok : TgtOk vs tgt) (w : Wd K c a0 S H1 H1 R1) (en : EnvR K a0 (hide H1 S) ρ σ) (wk : Walks K a0 S J H1 ds) (hD : H1 D = none) (hm : compM (turnC tgt vs tt elt ρ) ds R1 = .ok out Rn) (hz : out.length ≤ sizeLine)
    (hd : ∀ H xs, Wd K c a0 S H1 H Rn → H D = some (.lst xs) → RepA K a0 (hide H (D :: S)) xs out → Qd H) :
    ∃ W : Nat → Nat → Hp → Prop, (∃ m, W 0 m (upd H1 D (.lst []))) ∧ ∀ i m H, W i m H →
      (J.stop i H ∧ Qd H) ∨ (J.go i H ∧ ∃ Nx : Hp → Prop, (∀ H', Nx H' → ∃ m', m' < m ∧ W (i + 1) m' H') ∧ ∀ x H', J.yld i H x H' → tG K vs tgt x (wipe σ vs) H' fun σ2 H2 => wipe σ2 vs = wipe σ vs ∧ tDB K c EF tt σ2 H2 fun b H3 =>
        if b = true then tD K c EF elt σ2 H3 fun y H4 => ∃ acc, H4 D = some (.lst acc) ∧ acc.length < sizeLine ∧ Nx (upd H4 D (.lst (acc ++ [y]))) else Nx H3) := by
  have hDa : D ≠ a0 := fun z => w.notS hD (by rw [z]; exact w.a0S)
  have hDS : D ∉ S := w.notS hD
  have hF : Fr H1 D := fun o e => by rw [hD] at e; cases e
  have subD : ∀ H R, Wd K c a0 S H1 H R → (∃ xs, H D = some (.lst xs)) → Sub (hide H1 S) (hide H (D :: S)) := fun H R w1 _ b o h n => by
    have e : b ≠ D := fun z => by
      subst z
      obtain ⟨_, h⟩ := of_hide h
      rw [hD] at h
      cases h
    obtain ⟨nb, h2⟩ := of_hide h
    rw [hide_out (by simp [e, nb])]
    exact w1.gr b o (fun z => nb (z ▸ w.a0S)) h2 n
  refine lc_it (wk (D :: S)) (fun i H => ∃ R acc rest xs, Wd K c a0 S H1 H R ∧ H D = some (.lst xs) ∧ RepA K a0 (hide H (D :: S)) xs acc ∧ compM (turnC tgt vs tt elt ρ) (ds.drop i) R = .ok rest Rn ∧ acc ++ rest = out) ?_ ?_ ?_ ?_
  · refine ⟨R1, [], out, [], w.new hD, upd_same, .nil, by rw [List.drop_zero]; exact hm, rfl⟩
  · rintro i H hi ⟨R, acc, rest, xs, w1, hx, ra, hr, ho⟩
    refine ⟨subD H R w1 ⟨xs, hx⟩, fun b hb z => ?_⟩
    rcases List.mem_cons.mp hb with e | hb
    · subst e; rw [hx] at z; cases z
    · exact w1.here.ne b hb z
  · rintro i x H H' hi ⟨R, acc, rest, xs, w1, hx, ra, hr, ho⟩ ⟨hH', d, hd1, rd⟩
    rw [List.drop_eq_getElem_cons hi] at hr
    have ed : ds[i] = d := by
      have := List.getElem?_eq_getElem hi
      rw [this] at hd1
      exact Option.some.inj hd1
    rw [ed] at hr
    obtain ⟨o, R2, r, f1, f2, f3⟩ := compM_cons hr
    -- the heap in which the item stands
    have step : Wd K c a0 S H1 H' R ∧ H' D = some (.lst xs) ∧ RepA K a0 (hide H' (D :: S)) xs acc := by
      rcases hH' with e | ⟨T, ts, hT, e⟩
      · subst e; exact ⟨w1, hx, ra⟩
      · subst e
        have nT : D ≠ T := fun z => by rw [z, hT] at hx; cases hx
        refine ⟨w1.trans (w1.here.new hT), by rw [upd_ne nT]; exact hx, ra.mono fun b u h n => ?_⟩
        obtain ⟨nb, h⟩ := of_hide h
        rw [hide_out nb, upd_ne (ne_of_none h hT)]
        exact h
    obtain ⟨w2, hx2, ra2⟩ := step
    have wD : Wd K c a0 (D :: S) H' H' R := w2.here.add hx2 nt_lst
    unfold turnC at f1
    split at f1
    · cases f1
    · rename_i ρ' ht
      have enw := (en.mono (subD H' R w2 ⟨xs, hx2⟩)).wipe vs
      refine ⟨a0, D :: S, wipeE ρ vs, d, ρ', enw.1, rd, ht, fun σ' l' k' r' => ⟨(wipe_same l' k').trans (wipe_wipe σ vs), ?_⟩⟩
      have en' := enw.tgt tok ht l' k' r'
      refine ⟨a0, D :: S, ρ', R, wD, en', ?_⟩
      cases ht2 : tt ρ' R with
      | stuck => rw [ht2] at f1; cases f1
      | exc nm R3 => rw [ht2] at f1; cases f1
      | ok b R3 =>
        rw [ht2, bind_ok] at f1
        intro H3 w3
        have w3' : Wd K c a0 S H1 H3 R3 := w2.trans (w3.less (fun b hb => List.mem_cons_of_mem _ hb) w.a0S)
        have hx3 : H3 D = some (.lst xs) := w3.gr D _ hDa hx2 nt_lst
        cases b with
        | false =>
          rw [if_neg Bool.false_ne_true] at f1 ⊢
          cases f1
          exact ⟨_, acc, r, xs, w3', hx3, ra2.mono w3.sub, f2, by rw [← ho, f3]; rfl⟩
        | true =>
          rw [if_pos rfl] at f1 ⊢
          refine ⟨a0, D :: S, ρ', R3, w3.here, en'.mono w3.sub, ?_⟩
          cases he : elt ρ' R3 with
          | stuck => rw [he] at f1; cases f1
          | exc nm R4 => rw [he] at f1; cases f1
          | ok y R4 =>
            rw [he, bind_ok] at f1
            cases f1
            intro v H4 w4 r4
            have w4' : Wd K c a0 S H1 H4 _ := w3'.trans (w4.less (fun b hb => List.mem_cons_of_mem _ hb) w.a0S)
            have hx4 : H4 D = some (.lst xs) := w4.gr D _ hDa hx3 nt_lst
            have ra4 := (ra2.mono w3.sub).mono w4.sub
            have lacc : acc.length < sizeLine := by
              have e : (acc ++ rest).length = out.length := by rw [ho]
              rw [f3] at e
              simp at e
              omega
            refine ⟨xs, hx4, by rw [ra4.length]; exact lacc, _, acc ++ [y], r, xs ++ [v], w4'.put hF hx4 hDa, upd_same, ?_, f2, by rw [← ho, f3]; simp⟩
            refine (ra4.append (.cons r4 .nil)).mono fun b u h n => ?_
            obtain ⟨nb, h⟩ := of_hide h
            rw [hide_out nb, upd_ne fun z => nb (by rw [z]; exact List.mem_cons_self)]
            exact h
  · rintro H ⟨R, acc, rest, xs, w1, hx, ra, hr, ho⟩
    rw [List.drop_length] at hr
    cases hr
    rw [List.append_nil] at ho
    subst ho
    exact hd H xs w1 hx ra
/-- what a comprehension's reading asks, from the data -/
theorem comp_reads {K : PySem.W.Frag} {it : DenL} {tgt : Tgt} {vs : List Nat} {tt : DenB} {elt : Den} {σ : L2.St} {H : Hp} {Q : VK} (tok : TgtOk vs tgt) (h : tDN K c E (nComp it tgt vs tt elt) σ H Q) : tLc (tDI K c E it) (tG K vs tgt) (tDB K c EF tt) (tD K c EF elt) vs σ H Q := by
  obtain ⟨a0, S, ρ, R, w, en, p⟩ := h
  refine ⟨a0, S, ρ, R, w, en, ends_next p fun ds R1 p J H1 w1 wk D hD => ?_⟩
  cases hm : compM (turnC tgt vs tt elt ρ) ds R1 with
  | stuck => rw [hm] at p; exact p.elim
  | exc nm R2 =>
    exfalso
    have no : ∀ (ds : List PyData) (R : Row), compM (turnC tgt vs tt elt ρ) ds R ≠ .exc nm R2 := by
      intro ds
      induction ds with
      | nil => intro R z; cases z
      | cons d ds ih =>
        intro R z
        unfold compM at z
        split at z
        · rename_i o R1 e
          cases h2 : compM (turnC tgt vs tt elt ρ) ds R1 with
          | ok r R2 => rw [h2] at z; cases z
          | exc nm' R2' => rw [h2] at z; cases z; exact ih _ h2
          | stuck => rw [h2] at z; cases z
        · cases z
    exact no _ _ hm
  | ok out Rn =>
    rw [hm, bind_ok] at p
    split at p
    · rename_i hz
      refine comp_go tok w1.here (en.mono w1.sub) wk hD hm hz fun H2 xs w2 hx ra => ?_
      exact p D xs H2 (w1.fr hD) (w1.trans w2) hx ra
    · exact p.elim
theorem dn_comp {elt tg iter : Expr} {ifs : List Expr} {scope : Scope} {own : List (Str × Nat)} {vs : List Nat} {it : DenL} {tgt : Tgt} {tt : DenB} {de : Den} (hc : X.calm = true) (hN : X.N.Nodup) (tok : TgtOk vs tgt) (hi : DI X c E tg iter it) (ok : blkC X.N X.env.scope scope own = true) (hv : own.map (·.2) = vs)
    (hg : ∀ (s : Shared) (H : Hp) (C : Addr) (cl : List (Str × Addr)) (fp : List Addr), DG (X.blk s H scope (compEnvC scope cl C X.env) fp) tg vs tgt)
    (ht : ∀ (s : Shared) (H : Hp) (C : Addr) (cl : List (Str × Addr)) (fp : List Addr), DTs (X.blk s H scope (compEnvC scope cl C X.env) fp) c EF ifs tt)
    (he : ∀ (s : Shared) (H : Hp) (C : Addr) (cl : List (Str × Addr)) (fp : List Addr), DE (X.blk s H scope (compEnvC scope cl C X.env) fp) c EF elt de) (hs : ∀ x, foldedSetIterable iter X.env x = pure x := by intro _; rfl) :
    DN X c E (.ListComp elt [⟨tg, iter, ifs, 0⟩] scope pos) (nComp it tgt vs tt de) := by
  subst hv
  exact PE.imp (pe_lc (wi := tDI X.K c E it) (g := tG X.K _ tgt) (tt := tDB X.K c EF tt) (te := tD X.K c EF de) hc hN hi (blkOk_by ok) (fun s H C cl fp => (hg s H C cl fp).pg) ht he hs) fun _ _ _ => comp_reads tok
end
end Ev

/-! Ev: comprehensions of two clauses -/
namespace Ev
open PySem PySem.Spec PyProof.Rows L2
def turnC2 (tgt : Tgt) (vs : List Nat) (tt : DenB) (it1 : DenL) (tgt1 : Tgt) (vs1 : List Nat) (tt1 : DenB) (elt : Den) (ρ : Env) (d : PyData) (R : Row) : Res (List PyData) := match tgt d (wipeE ρ vs) with
  | none => .stuck
  | some ρ' => (tt ρ' R).bind fun b R1 => if b then (it1 ρ' R1).bind fun ds1 R2 => compM (turnC tgt1 vs1 tt1 elt ρ') ds1 R2 else .ok [] R1
def nComp2 (it : DenL) (tgt : Tgt) (vs : List Nat) (tt : DenB) (it1 : DenL) (tgt1 : Tgt) (vs1 : List Nat) (tt1 : DenB) (elt : Den) : DenL := fun ρ R => (it ρ R).bind fun ds R1 => (compM (turnC2 tgt vs tt it1 tgt1 vs1 tt1 elt ρ) ds R1).bind fun xs R2 => if xs.length ≤ sizeLine then .ok xs R2 else .stuck
theorem compM_noexc {f : PyData → Row → Res (List PyData)} {nm : Str} {R2 : Row} : ∀ (ds : List PyData) (R : Row), compM f ds R ≠ .exc nm R2 := by
  intro ds
  induction ds with
  | nil => intro R z; cases z
  | cons d ds ih =>
    intro R z
    unfold compM at z
    split at z
    · rename_i o R1 e
      cases h2 : compM f ds R1 with
      | ok r R2 => rw [h2] at z; cases z
      | exc nm' R2' => rw [h2] at z; cases z; exact ih _ h2
      | stuck => rw [h2] at z; cases z
    · cases z
section
variable {X : Cx} {c : Cfg} {E : XK} {pos : Pos} {K : PySem.W.Frag} {a0 : Addr} {S : List Addr} {H1 : Hp} {D : Addr}
/-- the state of the new list: acc so far -/
def AccAt (K : PySem.W.Frag) (c : Cfg) (a0 : Addr) (S : List Addr) (D : Addr) (H1 H : Hp) (R : Row) (acc : List PyData) : Prop := ∃ xs, Wd K c a0 S H1 H R ∧ H D = some (.lst xs) ∧ RepA K a0 (hide H (D :: S)) xs acc
theorem AccAt.wD {H : Hp} {R : Row} {acc : List PyData} (h : AccAt K c a0 S D H1 H R acc) : Wd K c a0 (D :: S) H H R := by
  obtain ⟨xs, w, hx, _⟩ := h
  exact w.here.add hx nt_lst
theorem AccAt.sub {H : Hp} {R : Row} {acc : List PyData} (hD : H1 D = none) (h : AccAt K c a0 S D H1 H R acc) : Sub (hide H1 S) (hide H (D :: S)) := fun b o e n => by
  obtain ⟨xs, w1, hx, _⟩ := h
  obtain ⟨nb, h2⟩ := of_hide e
  have ne : b ≠ D := fun z => by rw [z, hD] at h2; cases h2
  rw [hide_out (by simp [ne, nb])]
  exact w1.gr b o (fun z => nb (z ▸ w1.a0S)) h2 n
theorem AccAt.ne {H : Hp} {R : Row} {acc : List PyData} (h : AccAt K c a0 S D H1 H R acc) : ∀ b ∈ D :: S, H b ≠ none := h.wD.ne
/-- evaluation within a turn -/
theorem AccAt.on {H H' : Hp} {R R' : Row} {acc : List PyData} (hDa : D ≠ a0) (h : AccAt K c a0 S D H1 H R acc) (w : Wd K c a0 (D :: S) H H' R') : AccAt K c a0 S D H1 H' R' acc := by
  obtain ⟨xs, w1, hx, ra⟩ := h
  exact ⟨xs, w1.trans (w.less (fun b hb => List.mem_cons_of_mem _ hb) w1.a0S), w.gr D _ hDa hx nt_lst, ra.mono w.sub⟩
/-- the next item has come -/
theorem AccAt.turn {H H' : Hp} {R : Row} {acc : List PyData} (h : AccAt K c a0 S D H1 H R acc) (y : H' = H ∨ ∃ T ts, H T = none ∧ H' = upd H T (.tup ts)) : AccAt K c a0 S D H1 H' R acc := by
  obtain ⟨xs, w1, hx, ra⟩ := h
  rcases y with e | ⟨T, ts, hT, e⟩
  · subst e; exact ⟨xs, w1, hx, ra⟩
  · subst e
    have nT : D ≠ T := fun z => by rw [z, hT] at hx; cases hx
    refine ⟨xs, w1.trans (w1.here.new hT), by rw [upd_ne nT]; exact hx, ra.mono fun b u h n => ?_⟩
    obtain ⟨nb, h⟩ := of_hide h
    rw [hide_out nb, upd_ne (ne_of_none h hT)]
    exact h
/-- one more item -/
theorem AccAt.more {H : Hp} {R : Row} {acc : List PyData} {v : V} {y : PyData} (hD : H1 D = none) (hDa : D ≠ a0) (h : AccAt K c a0 S D H1 H R acc) (r : Rep K a0 (hide H (D :: S)) v y) : ∃ xs, H D = some (.lst xs) ∧ xs.length = acc.length ∧ AccAt K c a0 S D H1 (upd H D (.lst (xs ++ [v]))) R (acc ++ [y]) := by
  obtain ⟨xs, w1, hx, ra⟩ := h
  refine ⟨xs, hx, ra.length, xs ++ [v], w1.put (fun o e => by rw [hD] at e; cases e) hx hDa, upd_same, ?_⟩
  refine (ra.append (.cons r .nil)).mono fun b u h n => ?_
  obtain ⟨nb, h⟩ := of_hide h
  rw [hide_out nb, upd_ne fun z => nb (by rw [z]; exact List.mem_cons_self)]
  exact h
theorem comp2_reads {it : DenL} {tgt : Tgt} {vs : List Nat} {tt : DenB} {it1 : DenL} {tgt1 : Tgt} {vs1 : List Nat} {tt1 : DenB} {elt : Den} {σ : L2.St} {H : Hp} {Q : VK} (tok : TgtOk vs tgt) (tok1 : TgtOk vs1 tgt1) (h : tDN K c E (nComp2 it tgt vs tt it1 tgt1 vs1 tt1 elt) σ H Q) :
    tLc2 (tDI K c E it) (tG K vs tgt) (tDB K c EF tt) (tDI K c EF it1) (tG K vs1 tgt1) (tDB K c EF tt1) (tD K c EF elt) vs vs1 σ H Q := by
  obtain ⟨a0, S, ρ, R, w, en, p⟩ := h
  refine ⟨a0, S, ρ, R, w, en, ends_next p fun ds R1 p J H1 w1 wk D hD => ?_⟩
  cases hm : compM (turnC2 tgt vs tt it1 tgt1 vs1 tt1 elt ρ) ds R1 with
  | stuck => rw [hm] at p; exact p.elim
  | exc nm R2 => exact (compM_noexc _ _ hm).elim
  | ok out Rn =>
  rw [hm, bind_ok] at p
  split at p
  case isFalse => exact p.elim
  rename_i hz
  have hDa : D ≠ a0 := fun z => w1.here.notS hD (by rw [z]; exact w1.a0S)
  have en1 := en.mono w1.sub
  refine ⟨fun i m H => m = ds.length - i ∧ i ≤ ds.length ∧ ∃ R acc rest, AccAt K c a0 S D H1 H R acc ∧ compM (turnC2 tgt vs tt it1 tgt1 vs1 tt1 elt ρ) (ds.drop i) R = .ok rest Rn ∧ acc ++ rest = out, ⟨ds.length, by simp, Nat.zero_le _, R1, [], out, ⟨[], w1.here.new hD, upd_same, .nil⟩, by rw [List.drop_zero]; exact hm, rfl⟩, ?_⟩
  rintro i m H ⟨rfl, hi, R, acc, rest, ha, hr, ho⟩
  have wki := wk (D :: S)
  have hG := And.intro (ha.sub hD) ha.ne
  by_cases hlt : i < ds.length
  case neg =>
    have e : i = ds.length := by omega
    subst e
    rw [List.drop_length] at hr
    cases hr
    rw [List.append_nil] at ho
    subst ho
    obtain ⟨xs, w2, hx, ra⟩ := ha
    exact .inl ⟨wki.stops H hG, p D xs H (w1.fr hD) (w1.trans w2) hx ra⟩
  rw [List.drop_eq_getElem_cons hlt] at hr
  obtain ⟨o, R2, r, f1, f2, f3⟩ := compM_cons hr
  refine .inr ⟨wki.goes i H hlt hG, fun H' => AccAt K c a0 S D H1 H' R2 (acc ++ o), fun H' h' => ⟨ds.length - (i + 1), by omega, rfl, hlt, R2, acc ++ o, r, h', f2, by rw [← ho, f3, List.append_assoc]⟩, fun x H' y => ?_⟩
  obtain ⟨hH', d, hd1, rd⟩ := wki.yields i H x H' hlt hG y
  have ed : ds[i] = d := by
    have := List.getElem?_eq_getElem hlt
    rw [this] at hd1
    exact Option.some.inj hd1
  rw [ed] at f1
  have ha2 := ha.turn hH'
  unfold turnC2 at f1
  split at f1
  · cases f1
  rename_i ρ' ht
  have enw := (en1.mono (ha2.sub hD)).wipe vs
  refine ⟨a0, D :: S, wipeE ρ vs, d, ρ', enw.1, rd, ht, fun σ' l' k' r' => ⟨(wipe_same l' k').trans (wipe_wipe σ vs), ?_⟩⟩
  have en' := enw.tgt tok ht l' k' r'
  refine ⟨a0, D :: S, ρ', R, ha2.wD, en', ?_⟩
  cases ht2 : tt ρ' R with
  | stuck => rw [ht2] at f1; cases f1
  | exc nm R3 => rw [ht2] at f1; cases f1
  | ok b R3 =>
  rw [ht2, bind_ok] at f1
  intro H3 w3
  have ha3 := ha2.on hDa w3
  have en3 := en'.mono w3.sub
  cases b with
  | false =>
    rw [if_neg Bool.false_ne_true] at f1 ⊢
    cases f1
    rw [List.append_nil]
    exact ha3
  | true =>
  rw [if_pos rfl] at f1 ⊢
  refine ⟨a0, D :: S, ρ', R3, ha3.wD, en3, ?_⟩
  cases hi1 : it1 ρ' R3 with
  | stuck => rw [hi1] at f1; cases f1
  | exc nm R4 => rw [hi1] at f1; cases f1
  | ok ds1 R4 =>
  rw [hi1, bind_ok] at f1
  intro J1 H4 w4 wk1
  have ha4 := ha3.on hDa w4
  have en4 := en3.mono w4.sub
  have wk1 := wk1 (D :: S)
  refine ⟨fun j m H => m = ds1.length - j ∧ j ≤ ds1.length ∧ Sub (hide H4 (D :: S)) (hide H (D :: S)) ∧ ∃ R ac1 rest1, AccAt K c a0 S D H1 H R (acc ++ ac1) ∧ compM (turnC tgt1 vs1 tt1 elt ρ') (ds1.drop j) R = .ok rest1 R2 ∧ ac1 ++ rest1 = o,
    ⟨ds1.length, by simp, Nat.zero_le _, Sub.refl _, R4, [], o, by rw [List.append_nil]; exact ha4, by rw [List.drop_zero]; exact f1, rfl⟩, ?_⟩
  rintro j k H5 ⟨rfl, hj, s5, R5, ac1, rest1, ha5, hr1, ho1⟩
  have hG1 := And.intro s5 ha5.ne
  by_cases hlt1 : j < ds1.length
  case neg =>
    have e : j = ds1.length := by omega
    subst e
    rw [List.drop_length] at hr1
    cases hr1
    rw [List.append_nil] at ho1
    subst ho1
    exact .inl ⟨wk1.stops H5 hG1, ha5⟩
  rw [List.drop_eq_getElem_cons hlt1] at hr1
  obtain ⟨o1, R6, r1, g1, g2, g3⟩ := compM_cons hr1
  refine .inr ⟨wk1.goes j H5 hlt1 hG1, fun H' => Sub (hide H4 (D :: S)) (hide H' (D :: S)) ∧ AccAt K c a0 S D H1 H' R6 (acc ++ (ac1 ++ o1)), fun H' h' => ⟨ds1.length - (j + 1), by omega, rfl, hlt1, h'.1, R6, ac1 ++ o1, r1, h'.2, g2, by rw [← ho1, g3, List.append_assoc]⟩, fun x1 H6 y1 => ?_⟩
  obtain ⟨hH6, d1, hd2, rd1⟩ := wk1.yields j H5 x1 H6 hlt1 hG1 y1
  have ed1 : ds1[j] = d1 := by
    have := List.getElem?_eq_getElem hlt1
    rw [this] at hd2
    exact Option.some.inj hd2
  rw [ed1] at g1
  have ha6 := ha5.turn hH6
  have s6 : Sub (hide H4 (D :: S)) (hide H6 (D :: S)) := s5.trans (by
    rcases hH6 with e | ⟨T, ts, hT, e⟩
    · subst e; exact Sub.refl _
    · subst e
      exact fun b u h n => by
        obtain ⟨nb, h⟩ := of_hide h
        rw [hide_out nb, upd_ne (ne_of_none h hT)]
        exact h)
  unfold turnC at g1
  split at g1
  · cases g1
  rename_i ρ'' ht1
  have enw1 := (en4.mono s6).wipe vs1
  refine ⟨a0, D :: S, wipeE ρ' vs1, d1, ρ'', enw1.1, rd1, ht1, fun σ'' l'' k'' r'' => ⟨(wipe_same l'' k'').trans (wipe_wipe σ' vs1), ?_⟩⟩
  have en'' := enw1.tgt tok1 ht1 l'' k'' r''
  refine ⟨a0, D :: S, ρ'', R5, ha6.wD, en'', ?_⟩
  cases ht3 : tt1 ρ'' R5 with
  | stuck => rw [ht3] at g1; cases g1
  | exc nm R7 => rw [ht3] at g1; cases g1
  | ok b1 R7 =>
  rw [ht3, bind_ok] at g1
  intro H7 w7
  have ha7 := ha6.on hDa w7
  cases b1 with
  | false =>
    rw [if_neg Bool.false_ne_true] at g1 ⊢
    cases g1
    rw [List.append_nil]
    exact ⟨s6.trans w7.sub, ha7⟩
  | true =>
  rw [if_pos rfl] at g1 ⊢
  refine ⟨a0, D :: S, ρ'', R7, ha7.wD, en''.mono w7.sub, ?_⟩
  cases he : elt ρ'' R7 with
  | stuck => rw [he] at g1; cases g1
  | exc nm R8 => rw [he] at g1; cases g1
  | ok z R8 =>
  rw [he, bind_ok] at g1
  cases g1
  intro v H8 w8 r8
  obtain ⟨xs, hx8, lx, ha9⟩ := (ha7.on hDa w8).more hD hDa r8
  refine ⟨xs, hx8, ?_, ?_, by rw [← List.append_assoc]; exact ha9⟩
  · have e : (acc ++ rest).length = out.length := by rw [ho]
    have e1 : (ac1 ++ rest1).length = o.length := by rw [ho1]
    rw [f3] at e
    rw [g3] at e1
    simp at e e1
    rw [lx, List.length_append]
    omega
  · refine (s6.trans w7.sub).trans (w8.sub.trans fun b u h n => ?_)
    obtain ⟨nb, h⟩ := of_hide h
    rw [hide_out nb, upd_ne fun z => nb (by rw [z]; exact List.mem_cons_self)]
    exact h
theorem dn_comp2 {elt tg iter tg1 iter1 : Expr} {ifs ifs1 : List Expr} {scope : Scope} {own : List (Str × Nat)} {vs vs1 : List Nat} {it it1 : DenL} {tgt tgt1 : Tgt} {tt tt1 : DenB} {de : Den} (hc : X.calm = true) (hN : X.N.Nodup) (tok : TgtOk vs tgt) (tok1 : TgtOk vs1 tgt1) (hi : DI X c E tg iter it) (ok : blkC X.N X.env.scope scope own = true) (hv : own.map (·.2) = vs) (hv1 : ∀ i ∈ vs1, i ∈ vs)
    (hg : ∀ (s : Shared) (H : Hp) (C : Addr) (cl : List (Str × Addr)) (fp : List Addr), DG (X.blk s H scope (compEnvC scope cl C X.env) fp) tg vs tgt)
    (ht : ∀ (s : Shared) (H : Hp) (C : Addr) (cl : List (Str × Addr)) (fp : List Addr), DTs (X.blk s H scope (compEnvC scope cl C X.env) fp) c EF ifs tt)
    (hi1 : ∀ (s : Shared) (H : Hp) (C : Addr) (cl : List (Str × Addr)) (fp : List Addr), DI (X.blk s H scope (compEnvC scope cl C X.env) fp) c EF tg1 iter1 it1)
    (hg1 : ∀ (s : Shared) (H : Hp) (C : Addr) (cl : List (Str × Addr)) (fp : List Addr), DG (X.blk s H scope (compEnvC scope cl C X.env) fp) tg1 vs1 tgt1)
    (ht1 : ∀ (s : Shared) (H : Hp) (C : Addr) (cl : List (Str × Addr)) (fp : List Addr), DTs (X.blk s H scope (compEnvC scope cl C X.env) fp) c EF ifs1 tt1)
    (he : ∀ (s : Shared) (H : Hp) (C : Addr) (cl : List (Str × Addr)) (fp : List Addr), DE (X.blk s H scope (compEnvC scope cl C X.env) fp) c EF elt de) (hs : ∀ x, foldedSetIterable iter X.env x = pure x := by intro _; rfl) (hs1 : ∀ env x, foldedSetIterable iter1 env x = pure x := by intro _ _; rfl) :
    DN X c E (.ListComp elt [⟨tg, iter, ifs, 0⟩, ⟨tg1, iter1, ifs1, 0⟩] scope pos) (nComp2 it tgt vs tt it1 tgt1 vs1 tt1 de) := by
  subst hv
  exact PE.imp (pe_lc2 (wi := tDI X.K c E it) (g := tG X.K _ tgt) (tt := tDB X.K c EF tt) (wi1 := tDI X.K c EF it1) (g1 := tG X.K vs1 tgt1) (tt1 := tDB X.K c EF tt1) (te := tD X.K c EF de) hc hN hi (blkOk_by ok) hv1 (fun s H C cl fp => (hg s H C cl fp).pg) ht hi1 (fun s H C cl fp => (hg1 s H C cl fp).pg) ht1 he hs hs1) fun _ _ _ => comp2_reads tok tok1
end
end Ev

/-! Ev: statements: the state with what is owned -/
namespace Ev
open PySem PySem.Spec PyProof.Rows L2
theorem tok_name (i : Nat) : TgtOk [i] (gSet i) := fun d ρ ρ' e => by
  cases e
  exact ⟨by rw [List.length_set], fun j hj => List.getElem?_set_ne fun z => hj (by rw [← z]; exact List.mem_cons_self)⟩
theorem toks_nil : TgtsOk [] gsNil := fun d ρ ρ' e => by
  unfold gsNil at e
  split at e
  · cases e; exact ⟨rfl, fun _ _ => rfl⟩
  · cases e
theorem toks_cons {vs us : List Nat} {t : Tgt} {u : Tgts} (h1 : TgtOk vs t) (h2 : TgtsOk us u) : TgtsOk (vs ++ us) (gsCons t u) := fun d ρ ρ' e => by
  cases d with
  | nil => cases e
  | cons d dr =>
    obtain ⟨ρ1, e1, e2⟩ := Option.bind_eq_some_iff.mp e
    obtain ⟨p1, p2⟩ := h1 _ _ _ e1
    obtain ⟨p3, p4⟩ := h2 _ _ _ e2
    exact ⟨p3.trans p1, fun i hi => (p4 i fun z => hi (List.mem_append_right _ z)).trans (p2 i fun z => hi (List.mem_append_left _ z))⟩
theorem tok_tup {n : Nat} {vs : List Nat} {t : Tgts} (h : TgtsOk vs t) : TgtOk vs (gTupD n t) := fun d ρ ρ' e => by
  unfold gTupD at e
  split at e
  · split at e
    · exact h _ _ _ e
    · cases e
  · split at e
    · exact h _ _ _ e
    · cases e
  · cases e

/-- the object that a slot owns -/
def OwnAt (K : PySem.W.Frag) (a0 : Addr) (Hh H : Hp) (a : Addr) : PyData → Prop
  | .list ds => ∃ xs, H a = some (.lst xs) ∧ RepA K a0 Hh xs ds
  | .dict ps => (∃ kvs, H a = some (.dK kvs) ∧ RepK K a0 Hh kvs ps) ∨ ∃ kvs, H a = some (.dT kvs) ∧ RepT K a0 Hh kvs ps
  | _ => False
/-- the state: A tells which slot owns which object -/
structure StA (K : PySem.W.Frag) (c : Cfg) (a0 : Addr) (S : List Addr) (H0 Vi : Hp) (A : List (Nat × Addr)) (ρ : Env) (R : Row) (σ : L2.St) (H : Hp) : Prop where
  w : Wd K c a0 S H0 H R
  nd1 : (A.map (·.1)).Nodup
  nd2 : (A.map (·.2)).Nodup
  own : ∀ p ∈ A, Fr H0 p.2 ∧ σ[p.1]? = some (some (.ref p.2)) ∧ ∃ d, ρ[p.1]? = some (some d) ∧ OwnAt K a0 (hide H (A.map (·.2) ++ S)) H p.2 d
  len : ρ.length = σ.length
  rest : ∀ i d, ρ[i]? = some (some d) → i ∉ A.map (·.1) → ∃ v, σ[i]? = some (some v) ∧ Rep K a0 (hide H (A.map (·.2) ++ S)) v d
  vis : Sub Vi (hide H (A.map (·.2) ++ S))
def StOk (K : PySem.W.Frag) (c : Cfg) (a0 : Addr) (S : List Addr) (H0 Vi : Hp) (O : List Nat) (ρ : Env) (R : Row) (σ : L2.St) (H : Hp) : Prop :=
  ∃ A, StA K c a0 S H0 Vi A ρ R σ H ∧ (∀ i ∈ O, ∀ d, ρ[i]? = some (some d) → i ∈ A.map (·.1)) ∧ ∀ i ∈ A.map (·.1), i ∈ O
section
variable {K : PySem.W.Frag} {c : Cfg} {a0 : Addr} {S : List Addr} {H0 Vi H H' : Hp} {A : List (Nat × Addr)} {O O' : List Nat} {ρ : Env} {R R' : Row} {σ : L2.St}
theorem OwnAt.obj {Hh : Hp} {a : Addr} {d : PyData} (h : OwnAt K a0 Hh H a d) : ∃ o, H a = some o ∧ notTbl o ∧ (∀ xs, o ≠ .tup xs) ∧ (∀ ob u, o ≠ .frz ob u) ∧ (∀ φ, o ≠ .ext φ) := by
  cases d with
  | list ds => obtain ⟨xs, h, _⟩ := h; exact ⟨_, h, nt_lst, (fun _ z => by cases z), (fun _ _ z => by cases z), (fun _ z => by cases z)⟩
  | dict ps =>
    rcases h with ⟨xs, h, _⟩ | ⟨xs, h, _⟩
    · exact ⟨_, h, nt_dK, (fun _ z => by cases z), (fun _ _ z => by cases z), (fun _ z => by cases z)⟩
    · exact ⟨_, h, nt_dT, (fun _ z => by cases z), (fun _ _ z => by cases z), (fun _ z => by cases z)⟩
  | _ => exact h.elim
theorem OwnAt.rep {Hh : Hp} {a : Addr} {d : PyData} (h : OwnAt K a0 Hh H a d) {Hv : Hp} (s : Sub Hh Hv) (e : ∀ o, H a = some o → Hv a = some o) : Rep K a0 Hv (.ref a) d := by
  cases d with
  | list ds => obtain ⟨xs, h, r⟩ := h; exact .lst (e _ h) (r.mono s)
  | dict ps =>
    rcases h with ⟨xs, h, r⟩ | ⟨xs, h, r⟩
    · exact .dK (.inl (e _ h)) (r.mono s)
    · exact .dT (.inl (e _ h)) (r.mono s)
  | _ => exact h.elim
theorem OwnAt.mono {Hh Hv : Hp} {a : Addr} {d : PyData} (h : OwnAt K a0 Hh H a d) (s : Sub Hh Hv) (e : ∀ o, H a = some o → notTbl o → H' a = some o) : OwnAt K a0 Hv H' a d := by
  cases d with
  | list ds => obtain ⟨xs, h, r⟩ := h; exact ⟨xs, e _ h nt_lst, r.mono s⟩
  | dict ps =>
    rcases h with ⟨xs, h, r⟩ | ⟨xs, h, r⟩
    · exact .inl ⟨xs, e _ h nt_dK, r.mono s⟩
    · exact .inr ⟨xs, e _ h nt_dT, r.mono s⟩
  | _ => exact h.elim
theorem StA.notS (st : StA K c a0 S H0 Vi A ρ R σ H) {p : Nat × Addr} (hp : p ∈ A) : p.2 ∉ S := fun z => by
  obtain ⟨o, e, n⟩ := st.w.sS _ z
  exact (st.own p hp).1 o e n
theorem StA.as (st : StA K c a0 S H0 Vi A ρ R σ H) : ∀ b ∈ A.map (·.2), ∃ o, H b = some o ∧ notTbl o ∧ (∀ xs, o ≠ .tup xs) ∧ (∀ ob u, o ≠ .frz ob u) ∧ (∀ φ, o ≠ .ext φ) := fun b hb => by
  obtain ⟨p, hp, rfl⟩ := List.mem_map.mp hb
  obtain ⟨_, _, d, _, h⟩ := st.own p hp
  exact h.obj
/-- the world in which what is owned is hidden, too -/
theorem StA.wdA (st : StA K c a0 S H0 Vi A ρ R σ H) : Wd K c a0 (A.map (·.2) ++ S) H H R where
  a0S := List.mem_append_right _ st.w.a0S
  sS := fun b hb => by
    rcases List.mem_append.mp hb with hb | hb
    · obtain ⟨o, h, n, _⟩ := st.as b hb
      exact ⟨o, h, n⟩
    · exact st.w.here.sS b hb
  gr := fun _ _ _ h _ => h
  row := st.w.row
  tabs := st.w.tabs
theorem StA.env (st : StA K c a0 S H0 Vi A ρ R σ H) : EnvR K a0 (hide H S) ρ σ := by
  refine ⟨st.len, fun i d h => ?_⟩
  by_cases hi : i ∈ A.map (·.1)
  · obtain ⟨p, hp, rfl⟩ := List.mem_map.mp hi
    obtain ⟨_, e1, d', e2, ho⟩ := st.own p hp
    rw [h] at e2
    cases e2
    exact ⟨_, e1, ho.rep (hide_more fun b hb => List.mem_append_right _ hb) fun o e => by rw [hide_out (st.notS hp)]; exact e⟩
  · obtain ⟨v, e, r⟩ := st.rest i d h hi
    exact ⟨v, e, r.mono (hide_more fun b hb => List.mem_append_right _ hb)⟩
/-- the environment without what is owned -/
theorem StA.envM (st : StA K c a0 S H0 Vi A ρ R σ H) {ks : List Nat} (hk : ∀ i ∈ A.map (·.1), i ∈ ks) : EnvR K a0 (hide H (A.map (·.2) ++ S)) (wipeE ρ ks) σ := by
  refine ⟨by rw [wipeE_len]; exact st.len, fun i d h => ?_⟩
  have out : ∀ (ks : List Nat), (wipeE ρ ks)[i]? = some (some d) → ρ[i]? = some (some d) ∧ i ∉ ks := by
    intro ks
    induction ks with
    | nil => intro h; exact ⟨h, by simp⟩
    | cons v vs ih =>
      intro h
      rw [wipeE] at h
      by_cases e : v = i
      · subst e
        by_cases hv : v < (wipeE ρ vs).length
        · rw [List.getElem?_set_self hv] at h; cases h
        · rw [List.getElem?_eq_none (by rw [List.length_set]; omega)] at h; cases h
      · rw [List.getElem?_set_ne e] at h
        obtain ⟨h1, h2⟩ := ih h
        exact ⟨h1, by simp [h2, Ne.symm e]⟩
  obtain ⟨h1, h2⟩ := out ks h
  exact st.rest i d h1 fun z => h2 (hk i z)
/-- the world has gone on -/
theorem StA.on (st : StA K c a0 S H0 Vi A ρ R σ H) (w1 : Wd K c a0 S H H' R') : StA K c a0 S H0 Vi A ρ R' σ H' := by
  have sub : Sub (hide H (A.map (·.2) ++ S)) (hide H' (A.map (·.2) ++ S)) := fun b o h n => by
    obtain ⟨nb, h⟩ := of_hide h
    rw [hide_out nb]
    exact w1.gr b o (fun z => nb (by rw [z]; exact List.mem_append_right _ st.w.a0S)) h n
  refine ⟨st.w.trans w1, st.nd1, st.nd2, fun p hp => ?_, st.len, fun i d h hi => ?_, st.vis.trans sub⟩
  · obtain ⟨f, e1, d, e2, ho⟩ := st.own p hp
    refine ⟨f, e1, d, e2, ho.mono sub fun o e n => w1.gr p.2 o (fun z => st.notS hp (by rw [z]; exact st.w.a0S)) e n⟩
  · obtain ⟨v, e, r⟩ := st.rest i d h hi
    exact ⟨v, e, r.mono sub⟩
/-- what is owned is given up -/
theorem StA.drop (st : StA K c a0 S H0 Vi A ρ R σ H) (q : Nat × Addr → Bool) : StA K c a0 S H0 Vi (A.filter q) ρ R σ H := by
  have sb : ∀ p ∈ A.filter q, p ∈ A := fun p hp => (List.mem_filter.mp hp).1
  have sub : Sub (hide H (A.map (·.2) ++ S)) (hide H ((A.filter q).map (·.2) ++ S)) := hide_more fun b hb => by
    rcases List.mem_append.mp hb with hb | hb
    · obtain ⟨p, hp, rfl⟩ := List.mem_map.mp hb
      exact List.mem_append_left _ (List.mem_map.mpr ⟨p, sb p hp, rfl⟩)
    · exact List.mem_append_right _ hb
  refine ⟨st.w, (List.filter_sublist.map _).nodup st.nd1, (List.filter_sublist.map _).nodup st.nd2, fun p hp => ?_, st.len, fun i d h hi => ?_, st.vis.trans sub⟩
  · obtain ⟨f, e1, d, e2, ho⟩ := st.own p (sb p hp)
    exact ⟨f, e1, d, e2, ho.mono sub fun o e _ => e⟩
  · by_cases hi2 : i ∈ A.map (·.1)
    · obtain ⟨p, hp, rfl⟩ := List.mem_map.mp hi2
      obtain ⟨_, e1, d', e2, ho⟩ := st.own p hp
      rw [h] at e2
      cases e2
      refine ⟨_, e1, ho.rep sub fun o e => ?_⟩
      rw [hide_out]
      · exact e
      · intro z
        rcases List.mem_append.mp z with z | z
        · obtain ⟨p', hp', e'⟩ := List.mem_map.mp z
          have e3 : p' = p := by
            have n2 := st.nd2
            have hp' := sb p' hp'
            obtain ⟨i, hi, ei⟩ := List.mem_iff_getElem.mp hp
            obtain ⟨j, hj, ej⟩ := List.mem_iff_getElem.mp hp'
            have : (A.map (·.2))[i]'(by simpa using hi) = (A.map (·.2))[j]'(by simpa using hj) := by simp [ei, ej, e']
            have := (List.getElem_inj n2).mp this
            subst this
            rw [← ei, ← ej]
          subst e3
          exact hi (List.mem_map.mpr ⟨p', hp', rfl⟩)
        · exact st.notS hp z
    · obtain ⟨v, e, r⟩ := st.rest i d h hi2
      exact ⟨v, e, r.mono sub⟩
theorem StOk.drop (st : StOk K c a0 S H0 Vi O ρ R σ H) (hO : ∀ i ∈ O', i ∈ O) : StOk K c a0 S H0 Vi O' ρ R σ H := by
  obtain ⟨A, st, h1, h2⟩ := st
  refine ⟨A.filter fun p => decide (p.1 ∈ O'), st.drop _, fun i hi d h => ?_, fun i hi => ?_⟩
  · obtain ⟨p, hp, e⟩ := List.mem_map.mp (h1 i (hO i hi) d h)
    refine List.mem_map.mpr ⟨p, List.mem_filter.mpr ⟨hp, ?_⟩, e⟩
    rw [decide_eq_true_eq, e]
    exact hi
  · obtain ⟨p, hp, e⟩ := List.mem_map.mp hi
    rw [← e]
    exact of_decide_eq_true (List.mem_filter.mp hp).2
theorem StOk.on (st : StOk K c a0 S H0 Vi O ρ R σ H) (w1 : Wd K c a0 S H H' R') : StOk K c a0 S H0 Vi O ρ R' σ H' := by
  obtain ⟨A, st, h1, h2⟩ := st
  exact ⟨A, st.on w1, h1, h2⟩
end
end Ev

/-! Ev: statements -/
namespace Ev
open PySem PySem.Spec PyProof.Rows L2
inductive Fl where
  | nx (ρ : Env)
  | rt (d : PyData)
  | bk (ρ : Env)
  | ct (ρ : Env)
abbrev DenS := Env → Row → Res Fl
section
variable (K : PySem.W.Frag) (c : Cfg) (E : XK) (OL O O' : List Nat)
def EndF (D : L2.Ends) (a0 : Addr) (S : List Addr) (H0 Vi : Hp) (fl : Fl) (R' : Row) : Prop := match fl with
  | .nx ρ' => ∀ σ' H', StOk K c a0 S H0 Vi O' ρ' R' σ' H' → D.nx σ' H'
  | .rt d => ∀ v H', Wd K c a0 S H0 H' R' → Rep K a0 (hide H' S) v d → D.rt v H'
  | .bk ρ' => ∀ σ' H', StOk K c a0 S H0 Vi OL ρ' R' σ' H' → D.bk σ' H'
  | .ct ρ' => ∀ σ' H', StOk K c a0 S H0 Vi OL ρ' R' σ' H' → D.ct σ' H'
def tS (den : DenS) : TS := fun D σ H => ∃ a0 S H0 Vi ρ R, StOk K c a0 S H0 Vi O ρ R σ H ∧ Ends (den ρ R) (EndF K c OL O' D a0 S H0 Vi) (Ex K c E a0 S H0)
end
def DS (X : Cx) (c : Cfg) (E : XK) (OL O O' : List Nat) (st : Stmt) (den : DenS) : Prop := PS X st (tS X.K c E OL O O' den)
def DSs (X : Cx) (c : Cfg) (E : XK) (OL O O' : List Nat) (st : List Stmt) (den : DenS) : Prop := PSs X st (tS X.K c E OL O O' den)

def sNext : DenS := fun ρ R => .ok (.nx ρ) R
def sThen (f : Env → Row → Res Fl) (fl : Fl) (R : Row) : Res Fl := match fl with
  | .nx ρ => f ρ R
  | fl => .ok fl R
def sSeq (a b : DenS) : DenS := fun ρ R => (a ρ R).bind (sThen b)
section
variable {X : Cx} {c : Cfg} {E : XK} {OL O O1 O2 O' : List Nat} {pos : Pos}
theorem dss_nil : DSs X c E OL O O [] sNext := PSs.imp pss_nil fun D σ H ⟨a0, S, H0, Vi, ρ, R, st, p⟩ => p σ H st
theorem seq_of {K : PySem.W.Frag} {a b : DenS} {D : L2.Ends} {σ : L2.St} {H : Hp} (h : tS K c E OL O O2 (sSeq a b) D σ H) : tSeq (tS K c E OL O O1 a) (tS K c E OL O1 O2 b) D σ H := by
  obtain ⟨a0, S, H0, Vi, ρ, R, st, p⟩ := h
  refine ⟨a0, S, H0, Vi, ρ, R, st, (Ends.bind p).mono (fun fl R1 q => ?_) fun _ _ x => x⟩
  cases fl with
  | nx ρ1 => exact fun σ1 H1 st1 => ⟨a0, S, H0, Vi, ρ1, R1, st1, q⟩
  | rt d => exact q
  | bk ρ1 => exact q
  | ct ρ1 => exact q
theorem dss_cons {s : Stmt} {r : List Stmt} {a b : DenS} (h1 : DS X c E OL O O1 s a) (h2 : DSs X c E OL O1 O2 r b) : DSs X c E OL O O2 (s :: r) (sSeq a b) := PSs.imp (pss_cons h1 h2) fun _ _ _ => seq_of
theorem dss_one {s : Stmt} {a : DenS} (h1 : DS X c E OL O O1 s a) : DSs X c E OL O O1 [s] a := pss_one h1
theorem tS_weak {K : PySem.W.Frag} {a : DenS} {D : L2.Ends} {σ : L2.St} {H : Hp} (hi : ∀ i ∈ O1, i ∈ O) (ho : ∀ i ∈ O', i ∈ O2) (h : tS K c E OL O O' a D σ H) : tS K c E OL O1 O2 a D σ H := by
  obtain ⟨a0, S, H0, Vi, ρ, R, st, p⟩ := h
  refine ⟨a0, S, H0, Vi, ρ, R, st.drop hi, p.mono (fun fl R1 q => ?_) fun _ _ x => x⟩
  cases fl with
  | nx ρ1 => exact fun σ1 H1 st1 => q σ1 H1 (st1.drop ho)
  | rt d => exact q
  | bk ρ1 => exact q
  | ct ρ1 => exact q
/-- less is owned, ahead and behind -/
theorem DS.weak {s : Stmt} {a : DenS} (h : DS X c E OL O1 O2 s a) (hi : ∀ i ∈ O1, i ∈ O := by decide) (ho : ∀ i ∈ O', i ∈ O2 := by decide) : DS X c E OL O O' s a := PS.imp h fun _ _ _ => tS_weak hi ho
theorem DSs.weak {s : List Stmt} {a : DenS} (h : DSs X c E OL O1 O2 s a) (hi : ∀ i ∈ O1, i ∈ O := by decide) (ho : ∀ i ∈ O', i ∈ O2 := by decide) : DSs X c E OL O O' s a := PSs.imp h fun _ _ _ => tS_weak hi ho
theorem ds_pass : DS X c E OL O O (.Pass pos) sNext := PS.imp ps_pass fun D σ H ⟨a0, S, H0, Vi, ρ, R, st, p⟩ => p σ H st
/-- what is evaluated over the whole state -/
theorem tD_st {K : PySem.W.Frag} {den : Den} {a0 : Addr} {S : List Addr} {H0 Vi H : Hp} {ρ : Env} {R : Row} {σ : L2.St} {Q : VK} {ok : PyData → Row → Prop} (st : StOk K c a0 S H0 Vi O ρ R σ H) (p : Ends (den ρ R) ok (Ex K c E a0 S H0))
    (h : ∀ d R', ok d R' → ∀ v H', Wd K c a0 S H H' R' → StOk K c a0 S H0 Vi O ρ R' σ H' → Rep K a0 (hide H' S) v d → Q v H') : tD K c E den σ H Q := by
  obtain ⟨A, sa, h1, h2⟩ := st
  exact ⟨a0, S, ρ, R, sa.w.here, sa.env, p.mono (fun d R' q v H' w' r => h d R' q v H' w' ⟨A, sa.on w', h1, h2⟩ r) fun _ _ x => x.back sa.w⟩
def sExpr (e : Den) : DenS := fun ρ R => (e ρ R).bind fun _ R1 => .ok (.nx ρ) R1
theorem ds_expr {e : Expr} {d : Den} (h : DE X c E e d) (hs : swapsWith e none pos.line X.env = pure false := by rfl) : DS X c E OL O O (.Expr e pos) (sExpr d) :=
  PS.imp (ps_expr h hs) fun D σ H ⟨a0, S, H0, Vi, ρ, R, st, p⟩ => tD_st st (Ends.bind p) fun d R' q v H' w' st' r => q σ H' st'
def sRet (e : Den) : DenS := fun ρ R => (e ρ R).bind fun d R1 => .ok (.rt d) R1
theorem ds_ret {e : Expr} {d : Den} (h : DE X c E e d) : DS X c E OL O O1 (.Return (some e) pos) (sRet d) :=
  PS.imp (ps_ret h) fun D σ H ⟨a0, S, H0, Vi, ρ, R, st, p⟩ => tD_st st (Ends.bind p) fun d R' q v H' w' st' r => q v H' (by obtain ⟨A, sa, _⟩ := st'; exact sa.w) r
theorem tDB_st {K : PySem.W.Frag} {den : DenB} {a0 : Addr} {S : List Addr} {H0 Vi H : Hp} {ρ : Env} {R : Row} {σ : L2.St} {Q : Bool → Hp → Prop} {ok : Bool → Row → Prop} (st : StOk K c a0 S H0 Vi O ρ R σ H) (p : Ends (den ρ R) ok (Ex K c E a0 S H0))
    (h : ∀ b R', ok b R' → ∀ H', StOk K c a0 S H0 Vi O ρ R' σ H' → Q b H') : tDB K c E den σ H Q := by
  obtain ⟨A, sa, h1, h2⟩ := st
  exact ⟨a0, S, ρ, R, sa.w.here, sa.env, p.mono (fun b R' q H' w' => h b R' q H' ⟨A, sa.on w', h1, h2⟩) fun _ _ x => x.back sa.w⟩
def sIf (t : DenB) (a b : DenS) : DenS := fun ρ R => (t ρ R).bind fun k R1 => if k then a ρ R1 else b ρ R1
theorem ds_if {t : Expr} {a b : List Stmt} {dt : DenB} {da db : DenS} (ht : DT X c E t dt) (ha : DSs X c E OL O O1 a da) (hb : DSs X c E OL O O1 b db) : DS X c E OL O O1 (.If t a b pos) (sIf dt da db) :=
  PS.imp (ps_if ht ha hb) fun D σ H ⟨a0, S, H0, Vi, ρ, R, st, p⟩ => tDB_st st (Ends.bind p) fun b R' q H' st' => by
    cases b with
    | true => exact ⟨a0, S, H0, Vi, ρ, R', st', q⟩
    | false => exact ⟨a0, S, H0, Vi, ρ, R', st', q⟩

/-! ### pure values are stored -/
theorem StA.pure {K : PySem.W.Frag} {a0 : Addr} {S : List Addr} {H0 Vi H : Hp} {A : List (Nat × Addr)} {ρ : Env} {R : Row} {σ : L2.St} (st : StA K c a0 S H0 Vi A ρ R σ H) {v : V} {d : PyData} (r : Rep K a0 (hide H S) v d) (h : pureD d = true) : Rep K a0 (hide H (A.map (·.2) ++ S)) v d :=
  r.pure (fun b hb o e xs z => by
    obtain ⟨o', e', _, n, _⟩ := st.as b hb
    rw [e] at e'
    cases e'
    exact n xs z) h
theorem StA.pureA {K : PySem.W.Frag} {a0 : Addr} {S : List Addr} {H0 Vi H : Hp} {A : List (Nat × Addr)} {ρ : Env} {R : Row} {σ : L2.St} (st : StA K c a0 S H0 Vi A ρ R σ H) {v : List V} {d : List PyData} (r : RepA K a0 (hide H S) v d) (h : pureA d = true) : RepA K a0 (hide H (A.map (·.2) ++ S)) v d :=
  r.pure (fun b hb o e xs z => by
    obtain ⟨o', e', _, n, _⟩ := st.as b hb
    rw [e] at e'
    cases e'
    exact n xs z) h
/-- slots vs are stored, by values that do not lean on what is owned -/
theorem StA.store {K : PySem.W.Frag} {a0 : Addr} {S : List Addr} {H0 Vi H : Hp} {A : List (Nat × Addr)} {ρ ρ' : Env} {R : Row} {σ σ' : L2.St} {vs : List Nat} (st : StA K c a0 S H0 Vi A ρ R σ H) (l1 : ρ'.length = ρ.length) (k1 : ∀ i, i ∉ vs → ρ'[i]? = ρ[i]?) (l2 : σ'.length = σ.length) (k2 : ∀ i, i ∉ vs → σ'[i]? = σ[i]?)
    (r : ∀ i, i ∈ vs → ∀ d', ρ'[i]? = some (some d') → ∃ v', σ'[i]? = some (some v') ∧ Rep K a0 (hide H (A.map (·.2) ++ S)) v' d') : StA K c a0 S H0 Vi (A.filter fun p => decide (p.1 ∉ vs)) ρ' R σ' H := by
  have sd := st.drop fun p => decide (p.1 ∉ vs)
  have sub : Sub (hide H (A.map (·.2) ++ S)) (hide H ((A.filter fun p => decide (p.1 ∉ vs)).map (·.2) ++ S)) := hide_more fun b hb => by
    rcases List.mem_append.mp hb with hb | hb
    · obtain ⟨p, hp, rfl⟩ := List.mem_map.mp hb
      exact List.mem_append_left _ (List.mem_map.mpr ⟨p, (List.mem_filter.mp hp).1, rfl⟩)
    · exact List.mem_append_right _ hb
  refine ⟨sd.w, sd.nd1, sd.nd2, fun p hp => ?_, by rw [l1, l2, st.len], fun i d h hi => ?_, sd.vis⟩
  · obtain ⟨f, e1, d, e2, ho⟩ := sd.own p hp
    have hn : p.1 ∉ vs := of_decide_eq_true (List.mem_filter.mp hp).2
    exact ⟨f, by rw [k2 _ hn]; exact e1, d, by rw [k1 _ hn]; exact e2, ho⟩
  · by_cases hv : i ∈ vs
    · obtain ⟨v', e, r'⟩ := r i hv d h
      exact ⟨v', e, r'.mono sub⟩
    · rw [k1 i hv] at h
      rw [k2 i hv]
      exact sd.rest i d h hi
def minus (O vs : List Nat) : List Nat := O.filter fun i => decide (i ∉ vs)
theorem own_minus {A : List (Nat × Addr)} {ρ ρ' : Env} {vs : List Nat} (k1 : ∀ i, i ∉ vs → ρ'[i]? = ρ[i]?) (h1 : ∀ i ∈ O, ∀ d, ρ[i]? = some (some d) → i ∈ A.map (·.1)) (h2 : ∀ i ∈ A.map (·.1), i ∈ O) :
    (∀ i ∈ minus O vs, ∀ d, ρ'[i]? = some (some d) → i ∈ (A.filter fun p => decide (p.1 ∉ vs)).map (·.1)) ∧ ∀ i ∈ (A.filter fun p => decide (p.1 ∉ vs)).map (·.1), i ∈ minus O vs := by
  refine ⟨fun i hi d h => ?_, fun i hi => ?_⟩
  · obtain ⟨hO, hn⟩ := List.mem_filter.mp hi
    have hn := of_decide_eq_true hn
    rw [k1 i hn] at h
    obtain ⟨p, hp, e⟩ := List.mem_map.mp (h1 i hO d h)
    exact List.mem_map.mpr ⟨p, List.mem_filter.mpr ⟨hp, by rw [e]; exact decide_eq_true hn⟩, e⟩
  · obtain ⟨p, hp, e⟩ := List.mem_map.mp hi
    obtain ⟨hp, hn⟩ := List.mem_filter.mp hp
    rw [← e]
    exact List.mem_filter.mpr ⟨h2 _ (List.mem_map.mpr ⟨p, hp, rfl⟩), hn⟩
/-- target = e, e pure -/
def sAsg (t : Tgt) (e : Den) : DenS := fun ρ R => (e ρ R).bind fun d R1 => if pureD d then (match t d ρ with | some ρ' => .ok (.nx ρ') R1 | none => .stuck) else .stuck
theorem asg_of {K : PySem.W.Frag} {vs : List Nat} {t : Tgt} {e : Den} {D : L2.Ends} {σ : L2.St} {H : Hp} (ok : TgtOk vs t) (h : tS K c E OL O (minus O vs) (sAsg t e) D σ H) : tAsg (tD K c E e) (tG K vs t) D σ H := by
  obtain ⟨a0, S, H0, Vi, ρ, R, st, p⟩ := h
  refine tD_st st (Ends.bind p) fun d R' q v H' w' st' r => ?_
  split at q
  · rename_i hp
    obtain ⟨A, sa, h1, h2⟩ := st'
    split at q
    · rename_i ρ' ht
      have rp := sa.pure r hp
      obtain ⟨o1, o2⟩ := ok _ _ _ ht
      refine ⟨a0, A.map (·.2) ++ S, ρ, d, ρ', sa.len, rp, ht, fun σ' l2 k2 r2 => q σ' H' ?_⟩
      obtain ⟨q1, q2⟩ := own_minus o2 h1 h2
      exact ⟨_, sa.store o1 o2 l2 k2 r2, q1, q2⟩
    · exact q.elim
  · exact q.elim
/-- target = e, what e tells may lean on what is given up: ks stays owned, and is not seen by e -/
def sAsgM (ks : List Nat) (t : Tgt) (e : Den) : DenS := fun ρ R => (e (wipeE ρ ks) R).bind fun d R1 => match t d ρ with | some ρ' => .ok (.nx ρ') R1 | none => .stuck
theorem tD_stM {K : PySem.W.Frag} {den : Den} {a0 : Addr} {S : List Addr} {H0 Vi H : Hp} {ρ : Env} {R : Row} {σ : L2.St} {Q : VK} {ok : PyData → Row → Prop} (st : StOk K c a0 S H0 Vi O ρ R σ H) (p : Ends (den (wipeE ρ O) R) ok (Ex K c E a0 S H0))
    (h : ∀ d R', ok d R' → ∀ A, (∀ i ∈ O, ∀ d, ρ[i]? = some (some d) → i ∈ A.map (·.1)) → (∀ i ∈ A.map (·.1), i ∈ O) → ∀ v H', StA K c a0 S H0 Vi A ρ R' σ H' → Rep K a0 (hide H' (A.map (·.2) ++ S)) v d → Q v H') : tD K c E den σ H Q := by
  obtain ⟨A, sa, h1, h2⟩ := st
  refine ⟨a0, A.map (·.2) ++ S, wipeE ρ O, R, sa.wdA, sa.envM h2, p.mono (fun d R' q v H' w' r => ?_) fun nm R1 x dx H' w' e => ?_⟩
  · exact h d R' q A h1 h2 v H' (sa.on (w'.less (fun b hb => List.mem_append_right _ hb) sa.w.a0S)) r
  · exact x dx H' (sa.w.trans (w'.less (fun b hb => List.mem_append_right _ hb) sa.w.a0S)) e
theorem asgM_of {K : PySem.W.Frag} {ks vs : List Nat} {t : Tgt} {e : Den} {D : L2.Ends} {σ : L2.St} {H : Hp} (ok : TgtOk vs t) (hk : ∀ i ∈ ks, i ∈ O) (h : tS K c E OL O (minus ks vs) (sAsgM ks t e) D σ H) : tAsg (tD K c E e) (tG K vs t) D σ H := by
  obtain ⟨a0, S, H0, Vi, ρ, R, st, p⟩ := h
  refine tD_stM (st.drop hk) (Ends.bind p) fun d R' q A h1 h2 v H' sa r => ?_
  split at q
  · rename_i ρ' ht
    obtain ⟨o1, o2⟩ := ok _ _ _ ht
    refine ⟨a0, A.map (·.2) ++ S, ρ, d, ρ', sa.len, r, ht, fun σ' l2 k2 r2 => q σ' H' ?_⟩
    obtain ⟨q1, q2⟩ := own_minus o2 h1 h2
    exact ⟨_, sa.store o1 o2 l2 k2 r2, q1, q2⟩
  · exact q.elim
end
end Ev

/-! Ev: assignments -/
namespace Ev
open PySem PySem.Spec PyProof.Rows L2
/-- a list or dict of pure things -/
def pureIn : PyData → Bool
  | .list ds => pureA ds
  | .dict ps => ps.all fun p => pureD p.2
  | _ => false
section
variable {K : PySem.W.Frag} {a0 : Addr} {H : Hp}
theorem RepK.pure {S S' : List Addr} (hS : ∀ b ∈ S', ∀ o, H b = some o → ∀ xs, o ≠ .tup xs) : ∀ {v : List (Key × V)} {d : List (PyData × PyData)}, RepK K a0 (hide H S) v d → (d.all fun p => pureD p.2) = true → RepK K a0 (hide H (S' ++ S)) v d
  | _, _, .nil, _ => .nil
  | _, _, .cons h r, e => by
    rw [List.all_cons, Bool.and_eq_true] at e
    exact .cons (h.pure hS e.1) (RepK.pure hS r e.2)
theorem RepT.pure {S S' : List Addr} (hS : ∀ b ∈ S', ∀ o, H b = some o → ∀ xs, o ≠ .tup xs) : ∀ {v : List (List Key × V)} {d : List (PyData × PyData)}, RepT K a0 (hide H S) v d → (d.all fun p => pureD p.2) = true → RepT K a0 (hide H (S' ++ S)) v d
  | _, _, .nil, _ => .nil
  | _, _, .cons h r, e => by
    rw [List.all_cons, Bool.and_eq_true] at e
    exact .cons (h.pure hS e.1) (RepT.pure hS r e.2)
theorem OwnAt.pure {S S' : List Addr} {Hx : Hp} (hS : ∀ b ∈ S', ∀ o, H b = some o → ∀ xs, o ≠ .tup xs) {a : Addr} {d : PyData} (h : OwnAt K a0 (hide H S) Hx a d) (e : pureIn d = true) : OwnAt K a0 (hide H (S' ++ S)) Hx a d := by
  cases d with
  | list ds => obtain ⟨xs, h, r⟩ := h; exact ⟨xs, h, r.pure hS e⟩
  | dict ps =>
    rcases h with ⟨xs, h, r⟩ | ⟨xs, h, r⟩
    · exact .inl ⟨xs, h, r.pure hS e⟩
    · exact .inr ⟨xs, h, r.pure hS e⟩
  | _ => exact h.elim
end
/-- something new that is owned -/
def tDF (K : PySem.W.Frag) (c : Cfg) (E : XK) (den : Den) : TE := fun σ H Q => ∃ a0 S ρ R, Wd K c a0 S H H R ∧ EnvR K a0 (hide H S) ρ σ ∧
  Ends (den ρ R) (fun d R' => ∀ p H', Fr H p → Wd K c a0 S H H' R' → OwnAt K a0 (hide H' (p :: S)) H' p d → Q (.ref p) H') (Ex K c E a0 S H)
def DF (X : Cx) (c : Cfg) (E : XK) (e : Expr) (den : Den) : Prop := PE X e (tDF X.K c E den)
section
variable {X : Cx} {c : Cfg} {E : XK} {OL O O1 O2 O' : List Nat} {pos : Pos}
theorem tDN_of_F {K : PySem.W.Frag} {l : DenL} {σ : L2.St} {H : Hp} {Q : VK} (h : tDF K c E (dLst l) σ H Q) : tDN K c E l σ H Q := by
  obtain ⟨a0, S, ρ, R, w, en, p⟩ := h
  exact ⟨a0, S, ρ, R, w, en, ends_next p fun ds R1 q p vs H1 hp w1 h1 r => q p H1 hp w1 ⟨vs, h1, r⟩⟩
theorem DN.df {e : Expr} {l : DenL} (h : DN X c E e l) : DF X c E e (dLst l) := PE.imp h fun _ _ _ => tDN_of_F
theorem tDF_of_D {K : PySem.W.Frag} {d : Den} {σ : L2.St} {H : Hp} {Q : VK} (h : tD K c E d σ H Q) : tDF K c E d σ H Q := by
  obtain ⟨a0, S, ρ, R, w, en, p⟩ := h
  refine ⟨a0, S, ρ, R, w, en, p.mono (fun d R1 q p H1 hp w1 ho => ?_) fun _ _ x => x⟩
  refine q _ _ w1 (ho.rep (hide_more fun b hb => List.mem_cons_of_mem _ hb) fun o e => ?_)
  rw [hide_out]
  · exact e
  · intro z
    obtain ⟨o', e', n⟩ := w.sS p z
    exact hp o' e' n
theorem DF.de {e : Expr} {d : Den} (h : DF X c E e d) : DE X c E e d := PE.imp h fun _ _ _ => tDF_of_D
theorem df_dictK : DF X c E (.Dict [] [] pos) (dC (.dict [])) := PE.imp pe_dnewK fun σ H Q ⟨a0, S, ρ, R, w, en, q⟩ p hp => q p _ (fun o eo => by rw [hp] at eo; cases eo) (w.new hp) (.inl ⟨[], upd_same, .nil⟩)
theorem df_dictT : DF X c E (.Dict [] [] pos) (dC (.dict [])) := PE.imp pe_dnewT fun σ H Q ⟨a0, S, ρ, R, w, en, q⟩ p hp => q p _ (fun o eo => by rw [hp] at eo; cases eo) (w.new hp) (.inr ⟨[], upd_same, .nil⟩)

/-! ### the slot i gets something new -/
theorem StA.own1 {K : PySem.W.Frag} {a0 : Addr} {S : List Addr} {H0 Vi H H' : Hp} {A : List (Nat × Addr)} {ρ : Env} {R R' : Row} {σ : L2.St} {i : Nat} {p : Addr} {d : PyData} (st : StA K c a0 S H0 Vi A ρ R σ H) (w1 : Wd K c a0 S H H' R') (hp : Fr H p) (hi : i < ρ.length)
    (ho : OwnAt K a0 (hide H' (p :: (A.map (·.2) ++ S))) H' p d) : StA K c a0 S H0 Vi ((i, p) :: A.filter fun q => decide (q.1 ∉ [i])) (ρ.set i (some d)) R' (σ.set i (some (.ref p))) H' := by
  have sd := (st.on w1).drop fun q => decide (q.1 ∉ [i])
  have nA : p ∉ A.map (·.2) := fun z => by
    obtain ⟨o, e, n, _⟩ := st.as p z
    exact hp o e n
  have nS : p ∉ S := fun z => by
    obtain ⟨o, e, n⟩ := st.w.here.sS p z
    exact hp o e n
  have nA2 : p ∉ (A.filter fun q => decide (q.1 ∉ [i])).map (·.2) := fun z => by
    obtain ⟨q, hq, e⟩ := List.mem_map.mp z
    exact nA (List.mem_map.mpr ⟨q, (List.mem_filter.mp hq).1, e⟩)
  have f0 : Fr H0 p := fun o e n => by
    by_cases ea : p = a0
    · exact nS (by rw [ea]; exact st.w.a0S)
    · exact hp o (st.w.gr p o ea e n) n
  -- what was to be seen ahead is none of p
  have sub : Sub (hide H ((A.filter fun q => decide (q.1 ∉ [i])).map (·.2) ++ S)) (hide H' (p :: ((A.filter fun q => decide (q.1 ∉ [i])).map (·.2) ++ S))) := fun b o h n => by
    obtain ⟨nb, h⟩ := of_hide h
    have e : b ≠ p := fun z => hp o (by rw [← z]; exact h) n
    rw [hide_out (fun z => (List.mem_cons.mp z).elim e nb)]
    exact w1.gr b o (fun z => nb (by rw [z]; exact List.mem_append_right _ st.w.a0S)) h n
  have sd0 := st.drop fun q => decide (q.1 ∉ [i])
  refine ⟨sd.w, ?_, ?_, fun q hq => ?_, by rw [List.length_set, List.length_set, st.len], fun j e h hj => ?_, sd0.vis.trans sub⟩
  · rw [List.map_cons, List.nodup_cons]
    refine ⟨fun z => ?_, sd.nd1⟩
    obtain ⟨q, hq, e⟩ := List.mem_map.mp z
    have n := of_decide_eq_true (List.mem_filter.mp hq).2
    exact n (by rw [e]; exact List.mem_cons_self)
  · rw [List.map_cons, List.nodup_cons]
    exact ⟨nA2, sd.nd2⟩
  · rcases List.mem_cons.mp hq with e | hq
    · subst e
      refine ⟨f0, by rw [List.getElem?_set_self (by rw [← st.len]; exact hi)], d, by rw [List.getElem?_set_self hi], ?_⟩
      refine ho.mono (hide_more fun b hb => ?_) fun o e _ => e
      rcases List.mem_cons.mp hb with e | hb
      · subst e; exact List.mem_cons_self
      · rcases List.mem_append.mp hb with hb | hb
        · obtain ⟨q, hq, rfl⟩ := List.mem_map.mp hb
          exact List.mem_cons_of_mem _ (List.mem_append_left _ (List.mem_map.mpr ⟨q, (List.mem_filter.mp hq).1, rfl⟩))
        · exact List.mem_cons_of_mem _ (List.mem_append_right _ hb)
    · obtain ⟨f, e1, d', e2, h'⟩ := sd0.own q hq
      have n : q.1 ≠ i := fun z => (of_decide_eq_true (List.mem_filter.mp hq).2) (by rw [z]; exact List.mem_cons_self)
      refine ⟨f, by rw [List.getElem?_set_ne (Ne.symm n)]; exact e1, d', by rw [List.getElem?_set_ne (Ne.symm n)]; exact e2, ?_⟩
      exact h'.mono sub fun o e n => w1.gr q.2 o (fun z => sd0.notS hq (by rw [z]; exact st.w.a0S)) e n
  · have n : j ≠ i := fun z => hj (by rw [z]; exact List.mem_cons_self)
    rw [List.getElem?_set_ne (Ne.symm n)] at h ⊢
    obtain ⟨v, e1, r⟩ := sd0.rest j e h fun z => hj (List.mem_cons_of_mem _ z)
    exact ⟨v, e1, r.mono sub⟩
def sNew (i : Nat) (e : Den) : DenS := fun ρ R => (e ρ R).bind fun d R1 => if pureIn d && decide (i < ρ.length) then .ok (.nx (ρ.set i (some d))) R1 else .stuck
def sNewM (ks : List Nat) (i : Nat) (e : Den) : DenS := fun ρ R => (e (wipeE ρ ks) R).bind fun d R1 => if decide (i < ρ.length) then .ok (.nx (ρ.set i (some d))) R1 else .stuck
theorem own_new {A : List (Nat × Addr)} {ρ : Env} {i : Nat} {p : Addr} {d : PyData} (h1 : ∀ i ∈ O, ∀ d, ρ[i]? = some (some d) → i ∈ A.map (·.1)) (h2 : ∀ i ∈ A.map (·.1), i ∈ O) :
    (∀ j ∈ i :: minus O [i], ∀ e, (ρ.set i (some d))[j]? = some (some e) → j ∈ ((i, p) :: A.filter fun q => decide (q.1 ∉ [i])).map (·.1)) ∧ ∀ j ∈ ((i, p) :: A.filter fun q => decide (q.1 ∉ [i])).map (·.1), j ∈ i :: minus O [i] := by
  obtain ⟨q1, q2⟩ := own_minus (ρ' := ρ.set i (some d)) (vs := [i]) (fun j hj => List.getElem?_set_ne fun z => hj (by rw [z]; exact List.mem_cons_self)) h1 h2
  refine ⟨fun j hj e h => ?_, fun j hj => ?_⟩
  · rw [List.map_cons]
    rcases List.mem_cons.mp hj with z | z
    · rw [z]; exact List.mem_cons_self
    · exact List.mem_cons_of_mem _ (q1 j z e h)
  · rw [List.map_cons] at hj
    rcases List.mem_cons.mp hj with z | z
    · rw [z]; exact List.mem_cons_self
    · exact List.mem_cons_of_mem _ (q2 j z)
theorem new_of {K : PySem.W.Frag} {i : Nat} {e : Den} {D : L2.Ends} {σ : L2.St} {H : Hp} (h : tS K c E OL O (i :: minus O [i]) (sNew i e) D σ H) : tAsg (tDF K c E e) (gName i) D σ H := by
  obtain ⟨a0, S, H0, Vi, ρ, R, ⟨A, sa, h1, h2⟩, p⟩ := h
  refine ⟨a0, S, ρ, R, sa.w.here, sa.env, (Ends.bind p).mono (fun d R' q p H' hp w' ho => ?_) fun nm R1 x => x.back sa.w⟩
  split at q
  · rename_i hc
    rw [Bool.and_eq_true, decide_eq_true_eq] at hc
    obtain ⟨q1, q2⟩ := own_new (i := i) (p := p) (d := d) h1 h2
    refine q _ _ ⟨_, sa.own1 w' hp hc.2 ?_, q1, q2⟩
    have hS : ∀ b ∈ A.map (·.2), ∀ o, H' b = some o → ∀ xs, o ≠ .tup xs := fun b hb o eo xs z => by
      obtain ⟨o', e', n, nt, _⟩ := (sa.on w').as b hb
      rw [eo] at e'
      cases e'
      exact nt xs z
    refine (ho.pure hS hc.1).mono (hide_more fun b hb => ?_) fun o e _ => e
    rcases List.mem_cons.mp hb with e | hb
    · rw [e]; exact List.mem_append_right _ List.mem_cons_self
    · rcases List.mem_append.mp hb with hb | hb
      · exact List.mem_append_left _ hb
      · exact List.mem_append_right _ (List.mem_cons_of_mem _ hb)
  · exact q.elim
theorem newM_of {K : PySem.W.Frag} {ks : List Nat} {i : Nat} {e : Den} {D : L2.Ends} {σ : L2.St} {H : Hp} (hk : ∀ i ∈ ks, i ∈ O) (h : tS K c E OL O (i :: minus ks [i]) (sNewM ks i e) D σ H) : tAsg (tDF K c E e) (gName i) D σ H := by
  obtain ⟨a0, S, H0, Vi, ρ, R, st, p⟩ := h
  obtain ⟨A, sa, h1, h2⟩ := st.drop hk
  refine ⟨a0, A.map (·.2) ++ S, wipeE ρ ks, R, sa.wdA, sa.envM h2, (Ends.bind p).mono (fun d R' q p H' hp w' ho => ?_) fun nm R1 x dx H' w' e => x dx H' (sa.w.trans (w'.less (fun b hb => List.mem_append_right _ hb) sa.w.a0S)) e⟩
  split at q
  · rename_i hc
    rw [decide_eq_true_eq] at hc
    obtain ⟨q1, q2⟩ := own_new (i := i) (p := p) (d := d) h1 h2
    exact q _ _ ⟨_, sa.own1 (w'.less (fun b hb => List.mem_append_right _ hb) sa.w.a0S) hp hc ho, q1, q2⟩
  · exact q.elim

/-! ### the rules -/
theorem tD_monoQ {K : PySem.W.Frag} {d : Den} {σ : L2.St} {H : Hp} {Q Q' : VK} (h : tD K c E d σ H Q) (m : ∀ v H, Q v H → Q' v H) : tD K c E d σ H Q' := by
  obtain ⟨a0, S, ρ, R, w, en, p⟩ := h
  exact ⟨a0, S, ρ, R, w, en, p.mono (fun d R1 q v H1 w1 r => m _ _ (q v H1 w1 r)) fun _ _ x => x⟩
theorem tG_name {K : PySem.W.Frag} {i : Nat} {v : V} {σ : L2.St} {H : Hp} {Q : L2.St → Hp → Prop} (h : tG K [i] (gSet i) v σ H Q) : gName i v σ H Q := by
  obtain ⟨a0, S, ρ, d, ρ', l, r, e, k⟩ := h
  cases e
  refine k _ (by rw [List.length_set]) (fun j hj => List.getElem?_set_ne fun z => hj (by rw [← z]; exact List.mem_cons_self)) fun j hj d' h => ?_
  have : j = i := by simpa using hj
  subst this
  have hlt : j < ρ.length := by
    have := (List.getElem?_eq_some_iff.mp h).1
    rwa [List.length_set] at this
  rw [List.getElem?_set_self hlt] at h
  cases h
  exact ⟨v, by rw [List.getElem?_set_self (by rw [← l]; exact hlt)], r⟩
/-- x = e -/
theorem ds_set (i : Nat) {x : Str} {e : Expr} {d : Den} {pos' : Pos} (hN : X.N.Nodup) (h : DE X c E e d) (hi : X.N[i]? = some x := by rfl) (hx : Loc X.env.scope x := by first | exact Or.inl rfl | exact Or.inr rfl) (hs : swapsWith e (some (.Name x pos')) pos.line X.env = pure false := by rfl) (hf : X.fn x = true ∨ X.env.scope.names.lookup x = some .local := by first | exact .inl rfl | exact .inr rfl) :
    DS X c E OL O (minus O [i]) (.Assign [.Name x pos'] e pos) (sAsg (gSet i) d) := PS.imp (ps_set hN hi hx h hs hf) fun D σ H h => tD_monoQ (asg_of (tok_name i) h) fun _ _ => tG_name
theorem ds_setM (ks : List Nat) (i : Nat) {x : Str} {e : Expr} {d : Den} {pos' : Pos} (hN : X.N.Nodup) (h : DE X c E e d) (hk : ∀ i ∈ ks, i ∈ O := by decide) (hi : X.N[i]? = some x := by rfl) (hx : Loc X.env.scope x := by first | exact Or.inl rfl | exact Or.inr rfl) (hs : swapsWith e (some (.Name x pos')) pos.line X.env = pure false := by rfl) (hf : X.fn x = true ∨ X.env.scope.names.lookup x = some .local := by first | exact .inl rfl | exact .inr rfl) :
    DS X c E OL O (minus ks [i]) (.Assign [.Name x pos'] e pos) (sAsgM ks (gSet i) d) := PS.imp (ps_set hN hi hx h hs hf) fun D σ H h => tD_monoQ (asgM_of (tok_name i) hk h) fun _ _ => tG_name
/-- x = something new: as an assignment of any kind -/
def DA (X : Cx) (c : Cfg) (E : XK) (i : Nat) (st : Stmt) (d : Den) : Prop := PS X st (tAsg (tDF X.K c E d) (gName i))
theorem da_set (i : Nat) {x : Str} {e : Expr} {d : Den} {pos' : Pos} (hN : X.N.Nodup) (h : DF X c E e d) (hi : X.N[i]? = some x := by rfl) (hx : Loc X.env.scope x := by first | exact Or.inl rfl | exact Or.inr rfl) (hs : swapsWith e (some (.Name x pos')) pos.line X.env = pure false := by rfl) (hf : X.fn x = true ∨ X.env.scope.names.lookup x = some .local := by first | exact .inl rfl | exact .inr rfl) :
    DA X c E i (.Assign [.Name x pos'] e pos) d := ps_set hN hi hx h hs hf
theorem ds_new {i : Nat} {st : Stmt} {d : Den} (h : DA X c E i st d) : DS X c E OL O (i :: minus O [i]) st (sNew i d) := PS.imp h fun _ _ _ => new_of
theorem ds_newM (ks : List Nat) {i : Nat} {st : Stmt} {d : Den} (h : DA X c E i st d) (hk : ∀ i ∈ ks, i ∈ O := by decide) : DS X c E OL O (i :: minus ks [i]) st (sNewM ks i d) := PS.imp h fun _ _ _ => newM_of hk
/-- x = [.. for ..] on one line, x a local name -/
theorem da_comp (i : Nat) {y : Str} {py : Pos} {elt tg iter : Expr} {ifs : List Expr} {scope : Scope} {own : List (Str × Nat)} {spos : Pos} {vs : List Nat} {it : DenL} {tgt : Tgt} {tt : DenB} {de : Den} (hc : X.calm = true) (hN : X.N.Nodup) (tok : TgtOk vs tgt) (hi : DI X c E tg iter it) (ok : blkC X.N X.env.scope scope own = true) (hv : own.map (·.2) = vs)
    (hg : ∀ (s : Shared) (H : Hp) (C : Addr) (cl : List (Str × Addr)) (fp : List Addr), DG (X.blk s H scope (compEnvC scope cl C X.env) fp) tg vs tgt)
    (ht : ∀ (s : Shared) (H : Hp) (C : Addr) (cl : List (Str × Addr)) (fp : List Addr), DTs (X.blk s H scope (compEnvC scope cl C X.env) fp) c EF ifs tt)
    (he : ∀ (s : Shared) (H : Hp) (C : Addr) (cl : List (Str × Addr)) (fp : List Addr), DE (X.blk s H scope (compEnvC scope cl C X.env) fp) c EF elt de)
    (hy : X.N[i]? = some y := by rfl) (hyl : X.env.scope.names.lookup y = some .local := by rfl) (hsw : swapsWith (.ListComp elt [⟨tg, iter, ifs, 0⟩] scope pos) (some (.Name y py)) spos.line X.env = pure true := by exact sw_true rfl rfl rfl (by decide +kernel)) (hs : ∀ x, foldedSetIterable iter X.env x = pure x := by intro _; rfl) :
    DA X c E i (.Assign [.Name y py] (.ListComp elt [⟨tg, iter, ifs, 0⟩] scope pos) spos) (dLst (nComp it tgt vs tt de)) := by
  subst hv
  refine PS.imp (ps_setLc (wi := tDI X.K c E it) (g := tG X.K _ tgt) (tt := tDB X.K c EF tt) (te := tD X.K c EF de) hc hN hy hyl hsw hi (blkOk_by ok) (fun s H C cl fp => (hg s H C cl fp).pg) ht he hs) fun D σ H h => ?_
  exact comp_reads tok (tDN_of_F h)
theorem da_comp2 (i : Nat) {y : Str} {py : Pos} {elt tg iter tg1 iter1 : Expr} {ifs ifs1 : List Expr} {scope : Scope} {own : List (Str × Nat)} {spos : Pos} {vs vs1 : List Nat} {it it1 : DenL} {tgt tgt1 : Tgt} {tt tt1 : DenB} {de : Den} (hc : X.calm = true) (hN : X.N.Nodup) (tok : TgtOk vs tgt) (tok1 : TgtOk vs1 tgt1) (hi : DI X c E tg iter it) (ok : blkC X.N X.env.scope scope own = true) (hv : own.map (·.2) = vs) (hv1 : ∀ i ∈ vs1, i ∈ vs)
    (hg : ∀ (s : Shared) (H : Hp) (C : Addr) (cl : List (Str × Addr)) (fp : List Addr), DG (X.blk s H scope (compEnvC scope cl C X.env) fp) tg vs tgt)
    (ht : ∀ (s : Shared) (H : Hp) (C : Addr) (cl : List (Str × Addr)) (fp : List Addr), DTs (X.blk s H scope (compEnvC scope cl C X.env) fp) c EF ifs tt)
    (hi1 : ∀ (s : Shared) (H : Hp) (C : Addr) (cl : List (Str × Addr)) (fp : List Addr), DI (X.blk s H scope (compEnvC scope cl C X.env) fp) c EF tg1 iter1 it1)
    (hg1 : ∀ (s : Shared) (H : Hp) (C : Addr) (cl : List (Str × Addr)) (fp : List Addr), DG (X.blk s H scope (compEnvC scope cl C X.env) fp) tg1 vs1 tgt1)
    (ht1 : ∀ (s : Shared) (H : Hp) (C : Addr) (cl : List (Str × Addr)) (fp : List Addr), DTs (X.blk s H scope (compEnvC scope cl C X.env) fp) c EF ifs1 tt1)
    (he : ∀ (s : Shared) (H : Hp) (C : Addr) (cl : List (Str × Addr)) (fp : List Addr), DE (X.blk s H scope (compEnvC scope cl C X.env) fp) c EF elt de)
    (hy : X.N[i]? = some y := by rfl) (hyl : X.env.scope.names.lookup y = some .local := by rfl) (hsw : swapsWith (.ListComp elt [⟨tg, iter, ifs, 0⟩, ⟨tg1, iter1, ifs1, 0⟩] scope pos) (some (.Name y py)) spos.line X.env = pure true := by exact sw_true rfl rfl rfl (by decide +kernel)) (hs : ∀ x, foldedSetIterable iter X.env x = pure x := by intro _; rfl) (hs1 : ∀ env x, foldedSetIterable iter1 env x = pure x := by intro _ _; rfl) :
    DA X c E i (.Assign [.Name y py] (.ListComp elt [⟨tg, iter, ifs, 0⟩, ⟨tg1, iter1, ifs1, 0⟩] scope pos) spos) (dLst (nComp2 it tgt vs tt it1 tgt1 vs1 tt1 de)) := by
  subst hv
  refine PS.imp (ps_setLc2 (wi := tDI X.K c E it) (g := tG X.K _ tgt) (tt := tDB X.K c EF tt) (wi1 := tDI X.K c EF it1) (g1 := tG X.K vs1 tgt1) (tt1 := tDB X.K c EF tt1) (te := tD X.K c EF de) hc hN hy hyl hsw hi (blkOk_by ok) hv1 (fun s H C cl fp => (hg s H C cl fp).pg) ht hi1 (fun s H C cl fp => (hg1 s H C cl fp).pg) ht1 he hs hs1) fun D σ H h => ?_
  exact comp2_reads tok tok1 (tDN_of_F h)
/-- target = e (a tuple of names ..) -/
theorem ds_asg {tg e : Expr} {vs : List Nat} {t : Tgt} {d : Den} (tok : TgtOk vs t) (h : DE X c E e d) (hg : DG X tg vs t) (hs : swapsWithSole [tg] e pos.line X.env = pure false := by rfl) (hw : swappedStores [tg] e X.env = pure none := by rfl) (h1 : (assignEach [tg] X.env).map (·.2) = [assign tg X.env] := by rfl) :
    DS X c E OL O (minus O vs) (.Assign [tg] e pos) (sAsg t d) := PS.imp (ps_asg h hg.pg hs hw h1) fun D σ H h => asg_of tok h
theorem ds_asgM (ks : List Nat) {tg e : Expr} {vs : List Nat} {t : Tgt} {d : Den} (tok : TgtOk vs t) (h : DE X c E e d) (hg : DG X tg vs t) (hk : ∀ i ∈ ks, i ∈ O := by decide) (hs : swapsWithSole [tg] e pos.line X.env = pure false := by rfl) (hw : swappedStores [tg] e X.env = pure none := by rfl) (h1 : (assignEach [tg] X.env).map (·.2) = [assign tg X.env] := by rfl) :
    DS X c E OL O (minus ks vs) (.Assign [tg] e pos) (sAsgM ks t d) := PS.imp (ps_asg h hg.pg hs hw h1) fun D σ H h => asgM_of tok hk h
end
end Ev

/-! Ev: what is owned is changed; loops -/
namespace Ev
open PySem PySem.Spec PyProof.Rows L2
def plainO : HO → Prop
  | .lst _ => True
  | .dK _ => True
  | .dT _ => True
  | _ => False
theorem OwnAt.plain {K : PySem.W.Frag} {a0 a : Addr} {Hh H : Hp} {d : PyData} (h : OwnAt K a0 Hh H a d) : ∃ o, H a = some o ∧ plainO o := by
  cases d with
  | list ds => obtain ⟨xs, h, _⟩ := h; exact ⟨_, h, True.intro⟩
  | dict ps =>
    rcases h with ⟨xs, h, _⟩ | ⟨xs, h, _⟩
    · exact ⟨_, h, True.intro⟩
    · exact ⟨_, h, True.intro⟩
  | _ => exact h.elim
theorem tabs_keepO {T : List (Addr × Str)} {H H1 : Hp} (t : LamX.Tabs T H) (k : ∀ b o, H b = some o → ¬ plainO o → H1 b = some o) : LamX.Tabs T H1 := fun p hp => by
  obtain ⟨ps, h1, h2, h3⟩ := t p hp
  refine ⟨ps, k _ _ h1 (fun z => z), h2, fun pos cv hc => ?_⟩
  obtain ⟨cc, e1, e2⟩ := h3 pos cv hc
  exact ⟨cc, e1, k _ _ e2 (fun z => z)⟩
section
variable {K : PySem.W.Frag} {c : Cfg} {a0 : Addr} {S : List Addr} {H0 Vi H : Hp} {A : List (Nat × Addr)} {ρ : Env} {R : Row} {σ : L2.St} {O : List Nat}
theorem Wd.putO (w : Wd K c a0 S H0 H R) {a : Addr} {o o' : HO} (hf : Fr H0 a) (h : H a = some o) (hp : plainO o) (ha : a ≠ a0) : Wd K c a0 S H0 (upd H a o') R where
  a0S := w.a0S
  sS := w.sS
  gr := fun b u nb e n => by
    rw [upd_ne fun z => by subst z; exact hf u e n]
    exact w.gr b u nb e n
  row := by
    obtain ⟨sc, e, f⟩ := w.row
    refine ⟨sc, by rw [upd_ne (Ne.symm ha)]; exact e, f.mono fun ob u z => ?_⟩
    rw [upd_ne fun q => by subst q; rw [h] at z; cases z; exact hp]
    exact z
  tabs := tabs_keepO w.tabs fun b u e n => by
    rw [upd_ne fun q => by subst q; rw [h] at e; cases e; exact n hp]
    exact e
/-- the object of the slot i is changed -/
theorem StA.write (st : StA K c a0 S H0 Vi A ρ R σ H) {i : Nat} {a : Addr} (hp : (i, a) ∈ A) {o' : HO} {d' : PyData} (ho : OwnAt K a0 (hide H (A.map (·.2) ++ S)) (upd H a o') a d') : StA K c a0 S H0 Vi A (ρ.set i (some d')) R σ (upd H a o') := by
  obtain ⟨f, e1, d, e2, h⟩ := st.own _ hp
  obtain ⟨o, eo, po⟩ := h.plain
  have aS : a ∉ S := st.notS hp
  have aA : a ∈ A.map (·.2) := List.mem_map.mpr ⟨_, hp, rfl⟩
  have he : hide (upd H a o') (A.map (·.2) ++ S) = hide H (A.map (·.2) ++ S) := by
    funext b
    by_cases hb : b ∈ A.map (·.2) ++ S
    · rw [hide_in hb, hide_in hb]
    · rw [hide_out hb, hide_out hb, upd_ne fun z => hb (by rw [z]; exact List.mem_append_left _ aA)]
  have hi : i < ρ.length := (List.getElem?_eq_some_iff.mp e2).1
  refine ⟨st.w.putO f eo po fun z => aS (by rw [z]; exact st.w.a0S), st.nd1, st.nd2, fun p hp' => ?_, by rw [List.length_set]; exact st.len, fun j e hj hn => ?_, by rw [he]; exact st.vis⟩
  · rw [he]
    by_cases hpi : p.1 = i
    · have e3 : p = (i, a) := by
        obtain ⟨x, hx, ex⟩ := List.mem_iff_getElem.mp hp'
        obtain ⟨y, hy, ey⟩ := List.mem_iff_getElem.mp hp
        have : (A.map (·.1))[x]'(by simpa using hx) = (A.map (·.1))[y]'(by simpa using hy) := by simp [ex, ey, hpi]
        have := (List.getElem_inj st.nd1).mp this
        subst this
        rw [← ex, ← ey]
      subst e3
      exact ⟨f, e1, d', by rw [List.getElem?_set_self hi], ho⟩
    · obtain ⟨f', e1', d2, e2', h2⟩ := st.own p hp'
      refine ⟨f', e1', d2, by rw [List.getElem?_set_ne (Ne.symm hpi)]; exact e2', ?_⟩
      have pa : p.2 ≠ a := fun z => hpi (by
        obtain ⟨x, hx, ex⟩ := List.mem_iff_getElem.mp hp'
        obtain ⟨y, hy, ey⟩ := List.mem_iff_getElem.mp hp
        have : (A.map (·.2))[x]'(by simpa using hx) = (A.map (·.2))[y]'(by simpa using hy) := by simp [ex, ey, z]
        have := (List.getElem_inj st.nd2).mp this
        subst this
        rw [← ex, ey])
      exact h2.mono (Sub.refl _) fun o e _ => by rw [upd_ne pa]; exact e
  · rw [he]
    have ni : j ≠ i := fun z => hn (by rw [z]; exact List.mem_map.mpr ⟨_, hp, rfl⟩)
    rw [List.getElem?_set_ne (Ne.symm ni)] at hj
    exact st.rest j e hj hn
theorem StOk.write (st : StA K c a0 S H0 Vi A ρ R σ H) (h1 : ∀ i ∈ O, ∀ d, ρ[i]? = some (some d) → i ∈ A.map (·.1)) (h2 : ∀ i ∈ A.map (·.1), i ∈ O) {i : Nat} {a : Addr} (hp : (i, a) ∈ A) {o' : HO} {d' : PyData} (ho : OwnAt K a0 (hide H (A.map (·.2) ++ S)) (upd H a o') a d') :
    StOk K c a0 S H0 Vi O (ρ.set i (some d')) R σ (upd H a o') := by
  refine ⟨A, st.write hp ho, fun j hj d h => ?_, h2⟩
  by_cases e : j = i
  · subst e; exact List.mem_map.mpr ⟨_, hp, rfl⟩
  · rw [List.getElem?_set_ne (Ne.symm e)] at h
    exact h1 j hj d h
/-- the owned object of a slot that is set -/
theorem StA.find (st : StA K c a0 S H0 Vi A ρ R σ H) (h1 : ∀ i ∈ O, ∀ d, ρ[i]? = some (some d) → i ∈ A.map (·.1)) {i : Nat} (hi : i ∈ O) {d : PyData} (h : ρ[i]? = some (some d)) :
    ∃ a, (i, a) ∈ A ∧ σ[i]? = some (some (.ref a)) ∧ OwnAt K a0 (hide H (A.map (·.2) ++ S)) H a d := by
  obtain ⟨p, hp, e⟩ := List.mem_map.mp (h1 i hi d h)
  obtain ⟨f, e1, d', e2, ho⟩ := st.own p hp
  subst e
  rw [h] at e2
  cases e2
  exact ⟨p.2, hp, e1, ho⟩
end
section
variable {X : Cx} {c : Cfg} {E : XK} {OL O O1 O2 O' : List Nat} {pos : Pos}
/-! ### append, extend -/
/-- what stands at the slot, a list -/
def lstAt (ρ : Env) (i : Nat) : Option (List PyData) := match ρ[i]?.join with
  | some (.list ds) => some ds
  | _ => none
theorem lstAt_some {ρ : Env} {i : Nat} {ds : List PyData} (h : lstAt ρ i = some ds) : ρ[i]? = some (some (.list ds)) := by
  unfold lstAt at h
  split at h
  · cases h; exact join_some (by assumption)
  · cases h
def sApp (i : Nat) (e : Den) : DenS := fun ρ R => (ofO (lstAt ρ i) R).bind fun ds R0 => (e ρ R0).bind fun v R1 => if pureD v && decide (ds.length < sizeLine) then .ok (.nx (ρ.set i (some (.list (ds ++ [v]))))) R1 else .stuck
theorem ds_app (i : Nat) {x : Str} {e : Expr} {d : Den} {p1 apos cpos : Pos} (h : DE X c E e d) (hO : i ∈ O := by decide) (hN : X.N[i]? = some x := by rfl) (hv : Vis X.env.scope x := by first | exact Or.inl rfl | exact Or.inr (Or.inl rfl) | exact Or.inr (Or.inr rfl)) (hd : (x == ("__debug__" : Str)) = false := by decide) (hcd : (x == ("__classdict__" : Str)) = false := by decide)
    (hbase : attributeBase (.Name x p1) "append" X.env (eval (.Name x p1) X.env) = eval (.Name x p1) X.env := by rfl)
    (hfew : ((backTo cpos (starEach [e] X.env)).all (fun x => !x.1) && (backToKw cpos (keywordEach [] X.env)).all (fun x => x.1.isSome) && decide (([e] : List Expr).length + ([] : List Keyword).length + (if ([] : List Keyword).isEmpty then 0 else 1) < 30)) = true := by rfl)
    (hline : (apos.endLine == cpos.line) = true := by rfl) (hs : starEach [e] X.env = (false, eval e X.env) :: starEach [] X.env := by rfl) (hplain : (backTo cpos (starEach [] X.env)).any (·.1) = false := by rfl) :
    DS X c E OL O O (.Expr (.Call (.Attribute (.Name x p1) "append" apos) [e] [] cpos) pos) (sApp i d) := by
  refine PS.imp (ps_expr (pe_bm PySem.F.plainAttrs_list PySem.F.slot_list_append PySem.F.type_list_append mt_append (pe_var hN hv hd hcd) (pa_cons h pa_nil hs) hbase hfew hline hs hplain)) fun D σ H ⟨a0, S, H0, Vi, ρ, R, st, p⟩ => ?_
  obtain ⟨ds, hl, p⟩ := Ends.ofO (Ends.bind p)
  have hρ := lstAt_some hl
  obtain ⟨A, sa, h1, h2⟩ := id st
  obtain ⟨a, hA, hσ, xs, hH, rA⟩ := sa.find h1 hO hρ
  refine ⟨.ref a, hσ, .inl ⟨rfl, xs, .inl (.inl hH)⟩, ?_⟩
  refine tD_st st (Ends.bind p) fun v R' q u H' w' st' r => ?_
  split at q
  · rename_i hc
    rw [Bool.and_eq_true, decide_eq_true_eq] at hc
    obtain ⟨A', sa', h1', h2'⟩ := st'
    obtain ⟨a', hA', hσ', xs', hH', rA'⟩ := sa'.find h1' hO hρ
    rw [hσ] at hσ'
    cases hσ'
    refine ⟨a, xs', u, rfl, rfl, hH', by rw [rA'.length]; exact hc.2, q σ _ (StOk.write sa' h1' h2' hA' ⟨_, upd_same, rA'.append (.cons (sa'.pure r hc.1) .nil)⟩)⟩
  · exact q.elim
def sExt (i : Nat) (e : Den) : DenS := fun ρ R => (ofO (lstAt ρ i) R).bind fun ds R0 => (e ρ R0).bind fun v R1 => match v with
  | .list es => if pureA es && decide (ds.length + es.length ≤ sizeLine) then .ok (.nx (ρ.set i (some (.list (ds ++ es))))) R1 else .stuck
  | _ => .stuck
theorem ds_ext (i : Nat) {x : Str} {e : Expr} {d : Den} {p1 apos cpos : Pos} (h : DE X c E e d) (hO : i ∈ O := by decide) (hN : X.N[i]? = some x := by rfl) (hv : Vis X.env.scope x := by first | exact Or.inl rfl | exact Or.inr (Or.inl rfl) | exact Or.inr (Or.inr rfl)) (hd : (x == ("__debug__" : Str)) = false := by decide) (hcd : (x == ("__classdict__" : Str)) = false := by decide)
    (hbase : attributeBase (.Name x p1) "extend" X.env (eval (.Name x p1) X.env) = eval (.Name x p1) X.env := by rfl)
    (hfew : ((backTo cpos (starEach [e] X.env)).all (fun x => !x.1) && (backToKw cpos (keywordEach [] X.env)).all (fun x => x.1.isSome) && decide (([e] : List Expr).length + ([] : List Keyword).length + (if ([] : List Keyword).isEmpty then 0 else 1) < 30)) = true := by rfl)
    (hline : (apos.endLine == cpos.line) = true := by rfl) (hs : starEach [e] X.env = (false, eval e X.env) :: starEach [] X.env := by rfl) (hplain : (backTo cpos (starEach [] X.env)).any (·.1) = false := by rfl) :
    DS X c E OL O O (.Expr (.Call (.Attribute (.Name x p1) "extend" apos) [e] [] cpos) pos) (sExt i d) := by
  refine PS.imp (ps_expr (pe_bm PySem.F.plainAttrs_list PySem.F.slot_list_extend PySem.F.type_list_extend mt_extend (pe_var hN hv hd hcd) (pa_cons h pa_nil hs) hbase hfew hline hs hplain)) fun D σ H ⟨a0, S, H0, Vi, ρ, R, st, p⟩ => ?_
  obtain ⟨ds, hl, p⟩ := Ends.ofO (Ends.bind p)
  have hρ := lstAt_some hl
  obtain ⟨A, sa, h1, h2⟩ := id st
  obtain ⟨a, hA, hσ, xs, hH, rA⟩ := sa.find h1 hO hρ
  refine ⟨.ref a, hσ, .inl ⟨rfl, xs, .inl (.inl hH)⟩, ?_⟩
  refine tD_st st (Ends.bind p) fun v R' q u H' w' st' r => ?_
  split at q
  · split at q
    · rename_i hc
      rw [Bool.and_eq_true, decide_eq_true_eq] at hc
      obtain ⟨A', sa', h1', h2'⟩ := st'
      obtain ⟨a', hA', hσ', xs', hH', rA'⟩ := sa'.find h1' hO hρ
      rw [hσ] at hσ'
      cases hσ'
      obtain ⟨b, ys, rfl, hb, rB⟩ := r.list_inv
      refine ⟨a, b, xs', ys, rfl, rfl, hH', (of_hide hb).2, by rw [rA'.length, rB.length]; exact hc.2, q σ _ (StOk.write sa' h1' h2' hA' ⟨_, upd_same, rA'.append (sa'.pureA rB hc.1)⟩)⟩
    · exact q.elim
  · exact q.elim

/-! ### x[k] = e -/
def setD (x k v : PyData) : Option PyData := match x, k with
  | .list ds, .int i => (ixN ds.length i).map fun j => .list (ds.set j v)
  | .dict ps, k => if kinOk ps k && decide (ps.length < sizeLine) then some (.dict (dput ps k v)) else none
  | _, _ => none
/-- the store to an owned object, by values -/
def rSetD (K : PySem.W.Frag) : V → V → V → Hp → (Hp → Prop) → Prop := fun o y v H Q => ∃ a a0 S d k e d', o = .ref a ∧ OwnAt K a0 (hide H S) H a d ∧ a ∈ S ∧ Rep K a0 (hide H S) y k ∧ Rep K a0 (hide H S) v e ∧ setD d k e = some d' ∧
  ∀ o', OwnAt K a0 (hide H S) (upd H a o') a d' → Q (upd H a o')
theorem relabel {pins : List (Addr × Obj)} {σ : L2.St} {H : Hp} {s : Shared} {a : Addr} {o o' : HO} (I : Inv X pins σ H s) (h : H a = some o) (hm : Mut (some o)) (x : ObjOk X.prog X.w H s.heap a o') (hg : ∃ u, s.heap.get? a = some u) : Inv X pins σ (upd H a o') s :=
  I.write (x := a) (e := a) (h' := s.heap) (t' := s.toks) (by rw [h]; exact hm) (.inl rfl) (fun _ _ _ q => q) hg (x.stay (fun b u _ q => q) (fun b q => by
    rw [upd_ne fun z => by subst z; rw [h] at q; cases q; exact hm]
    exact q) fun b xs q => by
    rw [upd_ne fun z => by subst z; rw [h] at q; cases q; exact hm]
    exact q)
theorem relabel_TK {pins : List (Addr × Obj)} {σ : L2.St} {H : Hp} {s : Shared} {a : Addr} (I : Inv X pins σ H s) (h : H a = some (.dT [])) : Inv X pins σ (upd H a (.dK [])) s :=
  relabel I h True.intro (empty_TK (I.hok a _ h)) (by obtain ⟨_, _, _, _, o, _, _, e, _⟩ := (show ObjOk X.prog X.w H s.heap a (.dT []) from I.hok a _ h); exact ⟨o, e⟩)
theorem relabel_KT {pins : List (Addr × Obj)} {σ : L2.St} {H : Hp} {s : Shared} {a : Addr} (I : Inv X pins σ H s) (h : H a = some (.dK [])) : Inv X pins σ (upd H a (.dT [])) s :=
  relabel I h True.intro (empty_KT (I.hok a _ h)) (by obtain ⟨_, _, _, _, o, _, _, e, _⟩ := (show ObjOk X.prog X.w H s.heap a (.dK []) from I.hok a _ h); exact ⟨o, e⟩)
theorem set_data (hu : X.A.units + 1 < cLine) : PSet X (rSetD X.K) := by
  rintro pins s σ H o y v ov iv u Q I ro ry rv ⟨a, a0, S, d, k, e, d', rfl, ow, aS, rk, re, hs, q⟩
  cases (show ov = Value.ref a from ro)
  unfold setD at hs
  split at hs
  · rename_i ds i
    obtain ⟨j, hj, e'⟩ := Option.map_eq_some_iff.mp hs
    subst e'
    obtain ⟨xs, h, r⟩ := ow
    have := rk.int_inv; subst y
    exact set_list pins s σ H _ _ v _ iv u Q I (show RelV (.ref a) (.ref a) from rfl) ry rv ⟨a, xs, i, j, rfl, rfl, h, by rw [r.length]; exact hj, q _ ⟨_, upd_same, r.set re j⟩⟩
  · split at hs
    · rename_i kd ps hk
      cases hs
      rw [Bool.and_eq_true, decide_eq_true_eq] at hk
      rcases kin_cases hk.1 with ⟨kk, rfl, hk2⟩ | ⟨kk, rfl, hk2⟩
      · have := key_data rk; subst y
        have fin : ∀ (H1 : Hp) (kvs : List (Key × V)), Inv X pins σ H1 s → H1 a = some (.dK kvs) → (∀ o', upd H1 a o' = upd H a o') → RepK X.K a0 (hide H S) kvs ps → wpAny (model X.prog X.w) X.A (setItem (.ref a) iv u) (fun _ s' => ∃ H', Inv X pins σ H' s' ∧ Q H') X.xe s := by
          intro H1 kvs I1 h1 hup r
          refine d_setItem hu I1 (DPut.k h1 (by rw [r.length]; exact hk.2)) ry rv fun s' I' => ⟨_, I', ?_⟩
          rw [hup]
          exact q _ (.inl ⟨_, upd_same, r.put kk re⟩)
        rcases ow with ⟨kvs, h, r⟩ | ⟨kvs, h, r⟩
        · exact fin H kvs I h (fun _ => rfl) r
        · obtain ⟨e1, e2⟩ := repT_noK r hk2
          subst e1 e2
          exact fin _ [] (relabel_TK I h) upd_same (fun _ => upd_upd) .nil
      · obtain ⟨b, rfl, eb⟩ := keyT_data rk
        have fin : ∀ (H1 : Hp) (kvs : List (List Key × V)), Inv X pins σ H1 s → H1 a = some (.dT kvs) → H1 b = some (.tup (kk.map kV)) → (∀ o', upd H1 a o' = upd H a o') → RepT X.K a0 (hide H S) kvs ps → wpAny (model X.prog X.w) X.A (setItem (.ref a) iv u) (fun _ s' => ∃ H', Inv X pins σ H' s' ∧ Q H') X.xe s := by
          intro H1 kvs I1 h1 hb hup r
          refine d_setItem hu I1 (DPut.t h1 hb (by rw [r.length]; exact hk.2)) ry rv fun s' I' => ⟨_, I', ?_⟩
          rw [hup]
          exact q _ (.inr ⟨_, upd_same, r.put kk re⟩)
        rcases ow with ⟨kvs, h, r⟩ | ⟨kvs, h, r⟩
        · obtain ⟨e1, e2⟩ := repK_noT r hk2
          subst e1 e2
          refine fin _ [] (relabel_KT I h) upd_same ?_ (fun _ => upd_upd) .nil
          rw [upd_ne fun z => by subst z; rw [h] at eb; cases eb]
          exact eb
        · exact fin H kvs I h eb (fun _ => rfl) r
    · cases hs
  · cases hs
def valAt (ρ : Env) (i : Nat) : Option PyData := ρ[i]?.join
def sSetI (i : Nat) (ke : Den) (e : Den) : DenS := fun ρ R => (e ρ R).bind fun v R1 => (ofO (valAt ρ i) R1).bind fun x R2 => (ke ρ R2).bind fun k R3 => if pureD v then (ofO (setD x k v) R3).bind fun d R4 => .ok (.nx (ρ.set i (some d))) R4 else .stuck
/-- a key, an index is looked at, no more: a copy of it that leans on nothing -/
theorem setD_key {x k v d : PyData} (h : setD x k v = some d) : pureD k = true := by
  unfold setD at h
  split at h
  · rfl
  · split at h
    · rename_i hk
      rw [Bool.and_eq_true] at hk
      rcases kin_cases hk.1 with ⟨kk, rfl, _⟩ | ⟨kk, rfl, _⟩
      · cases kk <;> rfl
      · have : ∀ l : List Key, pureA (l.map keyD) = true := by
          intro l
          induction l with
          | nil => rfl
          | cons a l ih => cases a <;> (rw [List.map_cons, pureA, ih]; rfl)
        exact this kk
    · cases h
  · cases h
theorem ds_setI (i : Nat) {x : Str} {k e : Expr} {dk d : Den} {p1 tpos : Pos} (hu : X.A.units + 1 < cLine) (h : DE X c E e d) (hk : DE X c E k dk) (hO : i ∈ O := by decide) (hN : X.N[i]? = some x := by rfl) (hv : Vis X.env.scope x := by first | exact Or.inl rfl | exact Or.inr (Or.inl rfl) | exact Or.inr (Or.inr rfl)) (hd : (x == ("__debug__" : Str)) = false := by decide) (hcd : (x == ("__classdict__" : Str)) = false := by decide)
    (hs : swapsWithSole [.Subscript (.Name x p1) k tpos] e pos.line X.env = pure false := by rfl) (hw : swappedStores [.Subscript (.Name x p1) k tpos] e X.env = pure none := by rfl) (h1 : (assignEach [.Subscript (.Name x p1) k tpos] X.env).map (·.2) = [assign (.Subscript (.Name x p1) k tpos) X.env] := by rfl)
    (ha : ∀ v, assign (.Subscript (.Name x p1) k tpos) X.env v = (do
      let ov ← holding [v] (eval (.Name x p1) X.env)
      let iv ← holding [v, ov] (eval k X.env)
      standAt tpos
      holding [v, ov, iv] (setItem ov iv v)
      release [v, ov, iv] []) := by intro _; rfl) :
    DS X c E OL O O (.Assign [.Subscript (.Name x p1) k tpos] e pos) (sSetI i dk d) := by
  refine PS.imp (ps_asg h (pg_sub (pe_var hN hv hd hcd) hk (set_data hu) ha) hs hw h1) fun D σ H ⟨a0, S, H0, Vi, ρ, R, st, p⟩ => ?_
  refine tD_st st (Ends.bind p) fun v R1 p v1 H1 w1 st1 r1 => ?_
  obtain ⟨x0, hx, p⟩ := Ends.ofO (Ends.bind p)
  obtain ⟨A, sa, h1, h2⟩ := id st1
  obtain ⟨a, hA, hσ, ho⟩ := sa.find h1 hO (join_some hx)
  refine ⟨.ref a, hσ, ?_⟩
  refine tD_st st1 (Ends.bind p) fun k R3 p v2 H2 w2 st2 r2 => ?_
  split at p
  · rename_i hp
    obtain ⟨d', hd', q⟩ := Ends.ofO (Ends.bind p)
    obtain ⟨A2, sa2, h12, h22⟩ := st2
    obtain ⟨a2, hA2, hσ2, ho2⟩ := sa2.find h12 hO (join_some hx)
    rw [hσ] at hσ2
    cases hσ2
    refine ⟨a, a0, A2.map (·.2) ++ S, x0, k, v, d', rfl, ho2, List.mem_append_left _ (List.mem_map.mpr ⟨_, hA2, rfl⟩), sa2.pure r2 (setD_key hd'), sa2.pure (r1.mono w2.sub) hp, hd', fun o' ho' => q σ _ (StOk.write sa2 h12 h22 hA2 ho')⟩
  · exact p.elim
end
end Ev

/-! Ev: loops -/
namespace Ev
open PySem PySem.Spec PyProof.Rows L2
def forM (f : PyData → Env → Row → Res Fl) : List PyData → Env → Row → Res Fl
  | [], ρ, R => .ok (.nx ρ) R
  | d :: ds, ρ, R => (f d ρ R).bind fun fl R1 => match fl with
    | .nx ρ1 => forM f ds ρ1 R1
    | .ct ρ1 => forM f ds ρ1 R1
    | .bk ρ1 => .ok (.nx ρ1) R1
    | .rt v => .ok (.rt v) R1
def turnF (t : Tgt) (body : DenS) (d : PyData) (ρ : Env) (R : Row) : Res Fl := match t d ρ with
  | some ρ' => body ρ' R
  | none => .stuck
/-- for target in it: body; it does not see what is owned -/
def sForM (ks : List Nat) (it : DenL) (t : Tgt) (body : DenS) : DenS := fun ρ R => (it (wipeE ρ ks) R).bind fun ds R1 => forM (turnF t body) ds ρ R1
/-- it sees all, what it gives is pure -/
def sFor (it : DenL) (t : Tgt) (body : DenS) : DenS := fun ρ R => (it ρ R).bind fun ds R1 => forM (turnF t body) ds ρ R1
section
variable {K : PySem.W.Frag} {c : Cfg} {a0 : Addr} {S : List Addr} {H0 Vi V2 H : Hp} {A : List (Nat × Addr)} {ρ : Env} {R : Row} {σ : L2.St} {O : List Nat}
theorem StA.revis (st : StA K c a0 S H0 Vi A ρ R σ H) (h : Sub V2 (hide H (A.map (·.2) ++ S))) : StA K c a0 S H0 V2 A ρ R σ H := ⟨st.w, st.nd1, st.nd2, st.own, st.len, st.rest, h⟩
theorem StOk.less (st : StOk K c a0 S H0 V2 O ρ R σ H) (h : Sub Vi V2) : StOk K c a0 S H0 Vi O ρ R σ H := by
  obtain ⟨A, sa, h1, h2⟩ := st
  exact ⟨A, sa.revis (h.trans sa.vis), h1, h2⟩
end
section
variable {X : Cx} {c : Cfg} {E : XK} {OL O O1 O2 O' Ol : List Nat} {pos : Pos}
theorem for_go {K : PySem.W.Frag} {vs : List Nat} {t : Tgt} {body : DenS} {D : L2.Ends} {a0 : Addr} {S : List Addr} {H0 Vi H1 : Hp} {A : List (Nat × Addr)} {ρ : Env} {R1 : Row} {σ : L2.St} {J : It} {ds : List PyData} (tok : TgtOk vs t) (sa : StA K c a0 S H0 Vi A ρ R1 σ H1)
    (h1 : ∀ i ∈ Ol, ∀ d, ρ[i]? = some (some d) → i ∈ A.map (·.1)) (h2 : ∀ i ∈ A.map (·.1), i ∈ Ol) (wk : Walks K a0 (A.map (·.2) ++ S) J H1 ds) (p : Ends (forM (turnF t body) ds ρ R1) (EndF K c OL Ol D a0 S H0 Vi) (Ex K c E a0 S H0)) :
    ∃ W : Nat → Nat → L2.St → Hp → Prop, (∃ m, W 0 m σ H1) ∧ ∀ i m σ H, W i m σ H →
      (J.stop i H ∧ D.nx σ H) ∨ (J.go i H ∧ ∃ N : L2.St → Hp → Prop, (∀ σ' H', N σ' H' → ∃ m', m' < m ∧ W (i + 1) m' σ' H') ∧ ∀ x H', J.yld i H x H' → tG K vs t x σ H' fun σ2 H2 => tS K c E Ol (minus Ol vs) Ol body { D with nx := N, ct := N, bk := D.nx } σ2 H2) := by
  refine ⟨fun i m σ H => m = ds.length - i ∧ i ≤ ds.length ∧ ∃ ρ R, StOk K c a0 S H0 (hide H1 (A.map (·.2) ++ S)) Ol ρ R σ H ∧ Ends (forM (turnF t body) (ds.drop i) ρ R) (EndF K c OL Ol D a0 S H0 Vi) (Ex K c E a0 S H0),
    ⟨ds.length, by simp, Nat.zero_le _, ρ, R1, ⟨A, sa.revis (Sub.refl _), h1, h2⟩, by rw [List.drop_zero]; exact p⟩, ?_⟩
  rintro i m σ H ⟨rfl, hi, ρ, R, ⟨A2, sa2, h12, h22⟩, q⟩
  have hV : Sub Vi (hide H1 (A.map (·.2) ++ S)) := sa.vis
  have wk2 := wk (A2.map (·.2) ++ S)
  have hG : Sub (hide H1 (A.map (·.2) ++ S)) (hide H (A2.map (·.2) ++ S)) ∧ ∀ b ∈ A2.map (·.2) ++ S, H b ≠ none := ⟨sa2.vis, sa2.wdA.ne⟩
  by_cases hlt : i < ds.length
  case neg =>
    have e : i = ds.length := by omega
    subst e
    rw [List.drop_length] at q
    exact .inl ⟨wk2.stops H hG, q σ H (StOk.less ⟨A2, sa2, h12, h22⟩ hV)⟩
  rw [List.drop_eq_getElem_cons hlt] at q
  refine .inr ⟨wk2.goes i H hlt hG, fun σ' H' => ∃ ρ R, StOk K c a0 S H0 (hide H1 (A.map (·.2) ++ S)) Ol ρ R σ' H' ∧ Ends (forM (turnF t body) (ds.drop (i + 1)) ρ R) (EndF K c OL Ol D a0 S H0 Vi) (Ex K c E a0 S H0),
    fun σ' H' h' => ⟨ds.length - (i + 1), by omega, rfl, hlt, h'⟩, fun x H' y => ?_⟩
  obtain ⟨hH', d, hd1, rd⟩ := wk2.yields i H x H' hlt hG y
  have ed : ds[i] = d := by
    have := List.getElem?_eq_getElem hlt
    rw [this] at hd1
    exact Option.some.inj hd1
  rw [ed] at q
  have sa3 : StA K c a0 S H0 (hide H1 (A.map (·.2) ++ S)) A2 ρ R σ H' := by
    rcases hH' with e | ⟨T, ts, hT, e⟩
    · subst e; exact sa2
    · subst e; exact sa2.on (sa2.w.here.new hT)
  have q := Ends.bind q
  unfold turnF at q
  split at q
  · rename_i ρ' ht
    obtain ⟨o1, o2⟩ := tok _ _ _ ht
    refine ⟨a0, A2.map (·.2) ++ S, ρ, d, ρ', sa3.len, rd, ht, fun σ' l2 k2 r2 => ?_⟩
    obtain ⟨q1, q2⟩ := own_minus o2 h12 h22
    refine ⟨a0, S, H0, _, ρ', R, ⟨_, sa3.store o1 o2 l2 k2 r2, q1, q2⟩, q.mono (fun fl R2 z => ?_) fun _ _ z => z⟩
    cases fl with
    | nx ρ1 => exact fun σ4 H4 st4 => ⟨ρ1, R2, st4, z⟩
    | ct ρ1 => exact fun σ4 H4 st4 => ⟨ρ1, R2, st4, z⟩
    | bk ρ1 => exact fun σ4 H4 st4 => z σ4 H4 (st4.less hV)
    | rt v => exact z
  · exact q.elim
theorem ds_forM (ks : List Nat) {tg iter : Expr} {body : List Stmt} {vs : List Nat} {t : Tgt} {it : DenL} {db : DenS} (hp : PassesOwn (model X.prog X.w) X.A X.env X.xe) (hc : X.calm = true) (tok : TgtOk vs t) (hi : DI X c E tg iter it) (hg : DG X tg vs t) (hb : DSs X c E ks (minus ks vs) ks body db) (hk : ∀ i ∈ ks, i ∈ O := by decide)
    (hs : ∀ x, foldedSetIterable iter X.env x = pure x := by intro _; rfl) : DS X c E OL O ks (.For tg iter body [] pos) (sForM ks it t db) := by
  refine PS.imp (ps_for hp hc hi hg.pg hb hs) fun D σ H ⟨a0, S, H0, Vi, ρ, R, st, p⟩ => ?_
  obtain ⟨A, sa, h1, h2⟩ := st.drop hk
  refine ⟨a0, A.map (·.2) ++ S, wipeE ρ ks, R, sa.wdA, sa.envM h2, (Ends.bind p).mono (fun ds R1 q J H1 w1 wk => ?_) fun nm R1 x dx H' w' e => x dx H' (sa.w.trans (w'.less (fun b hb => List.mem_append_right _ hb) sa.w.a0S)) e⟩
  exact for_go tok (sa.on (w1.less (fun b hb => List.mem_append_right _ hb) sa.w.a0S)) h1 h2 wk q
/-- an iterator that leans on nothing that may change -/
def tDIP (K : PySem.W.Frag) (c : Cfg) (E : XK) (den : DenL) : TI := fun σ H Rr => ∃ a0 S ρ R, Wd K c a0 S H H R ∧ EnvR K a0 (hide H S) ρ σ ∧
  Ends (den ρ R) (fun ds R' => ∀ J H', Wd K c a0 S H H' R' → (∀ B : List Addr, (∀ b ∈ B, ∃ o, H b = some o ∧ notTbl o ∧ ∀ xs, o ≠ .tup xs) → Walks K a0 (B ++ S) J H' ds) → Rr J H') (Ex K c E a0 S H)
def DIP (X : Cx) (c : Cfg) (E : XK) (tg iter : Expr) (den : DenL) : Prop := PI X tg iter (tDIP X.K c E den)
theorem ds_for {tg iter : Expr} {body : List Stmt} {vs : List Nat} {t : Tgt} {it : DenL} {db : DenS} (hp : PassesOwn (model X.prog X.w) X.A X.env X.xe) (hc : X.calm = true) (tok : TgtOk vs t) (hi : DIP X c E tg iter it) (hg : DG X tg vs t) (hb : DSs X c E O (minus O vs) O body db)
    (hs : ∀ x, foldedSetIterable iter X.env x = pure x := by intro _; rfl) : DS X c E OL O O (.For tg iter body [] pos) (sFor it t db) := by
  refine PS.imp (ps_for hp hc hi hg.pg hb hs) fun D σ H ⟨a0, S, H0, Vi, ρ, R, st, p⟩ => ?_
  obtain ⟨A, sa, h1, h2⟩ := st
  refine ⟨a0, S, ρ, R, sa.w.here, sa.env, (Ends.bind p).mono (fun ds R1 q J H1 w1 wk => ?_) fun _ _ x => x.back sa.w⟩
  refine for_go tok (sa.on w1) h1 h2 (wk _ fun b hb => ?_) q
  obtain ⟨o, e, n, nt, _⟩ := sa.as b hb
  exact ⟨o, e, n, nt⟩
def lPure (l : DenL) : DenL := fun ρ R => (l ρ R).bind fun ds R1 => if pureA ds then .ok ds R1 else .stuck
/-- a new list of pure things -/
theorem dip_new {tg e : Expr} {l : DenL} (h : DN X c E e l) : DIP X c E tg e (lPure l) := by
  refine PI.imp (pi_list h) fun σ H Q ⟨a0, S, ρ, R, w, en, p⟩ => ?_
  refine ⟨a0, S, ρ, R, w, en, ends_next p fun ds R1 q p xs H1 hp w1 h1 rA => ?_⟩
  split at q
  · rename_i hpu
    refine ⟨p, rfl, ⟨xs, .inl (.inl h1)⟩, q _ _ w1 fun B hB => ?_⟩
    have nB : p ∉ B := fun z => by
      obtain ⟨o, e, n, _⟩ := hB p z
      exact hp o e n
    have nS : p ∉ S := fun z => by
      obtain ⟨o, e, n⟩ := w.sS p z
      exact hp o e n
    refine walks_list (by rw [hide_out (by simp [nB, nS])]; exact h1) ?_
    refine RepA.pure (fun b hb o e xs z => ?_) (rA.mono (hide_more fun b hb => List.mem_cons_of_mem _ hb)) hpu
    obtain ⟨o', e', n, nt⟩ := hB b hb
    by_cases ea : b = a0
    · subst ea
      obtain ⟨sc, h2, _⟩ := w1.row
      rw [h2] at e
      cases e
      cases z
    · have := w1.gr b o' ea e' n
      rw [this] at e
      cases e
      exact nt xs z
  · exact q.elim
/-- pure data -/
def lSeqP (d : Den) : DenL := fun ρ R => (d ρ R).bind fun x R1 => match x with | .tuple ds => if pureA ds then .ok ds R1 else .stuck | _ => .stuck
theorem dip_tup {tg e : Expr} {d : Den} (h : DE X c E e d) : DIP X c E tg e (lSeqP d) := by
  refine PI.imp (pi_tup h) fun σ H Q ⟨a0, S, ρ, R, w, en, p⟩ => ?_
  refine tD_of w en (ends_next p fun x R1 q v H1 w1 r1 => ?_)
  split at q
  · split at q
    · rename_i hpu
      obtain ⟨a, xs, rfl, h1, rA⟩ := r1.tup_inv
      refine ⟨a, rfl, ⟨xs, .inl (.inl (of_hide h1).2)⟩, q _ _ w1 fun B hB => ?_⟩
      have hS : ∀ b ∈ B, ∀ o, H1 b = some o → ∀ xs, o ≠ .tup xs := fun b hb o e xs z => by
        obtain ⟨o', e', n, nt⟩ := hB b hb
        by_cases ea : b = a0
        · subst ea
          obtain ⟨sc, h2, _⟩ := w1.row
          rw [h2] at e
          cases e
          cases z
        · have := w1.gr b o' ea e' n
          rw [this] at e
          cases e
          exact nt xs z
      have r2 : Rep X.K a0 (hide H1 (B ++ S)) (.ref a) (.tuple _) := Rep.pure hS r1 (show pureD (.tuple _) = true by unfold pureD; exact hpu)
      obtain ⟨a', xs', e', h1', rA'⟩ := r2.tup_inv
      cases e'
      exact walks_tup h1' rA'
    · exact q.elim
  · exact q.elim
theorem dip_range1 {tg a : Expr} {l : DenL} {p pos : Pos} (ha : DEs X c E [a] l) (hm : X.mg "range" = none) (hg : Gl X "range" := by rfl) (hs : starEach [a] X.env = [(false, eval a X.env)] := by rfl) : DIP X c E tg (.Call (.Name "range" p) [a] [] pos) (fun ρ R => (l ρ R).bind fun xs R1 => if xs.length = 1 then ofO (rangeD xs) R1 else .stuck) := by
  refine PI.imp (pi_range1 hg hm ha hs) fun σ H Q ⟨a0, S, ρ, R, w, en, p⟩ => tDL_of w en (ends_next p fun xs R1 p vs H1 w1 r1 => ?_)
  split at p
  · rename_i hl
    obtain ⟨ds, e, q⟩ := Ends.ofO p
    unfold rangeD at e
    split at e
    · split at e
      · rename_i hj
        cases e
        obtain ⟨v, rfl, r9⟩ := repA_one r1
        have := r9.int_inv; subst v
        exact ⟨_, rfl, hj.1, hj.2, q _ _ w1 fun _ _ => walks_range⟩
      · cases e
    · cases hl
    · cases hl
    · cases e
  · exact p.elim
theorem dip_range2 {tg a b : Expr} {l : DenL} {p pos : Pos} (ha : DEs X c E [a, b] l) (hm : X.mg "range" = none) (hg : Gl X "range" := by rfl) (hs : starEach [a, b] X.env = [(false, eval a X.env), (false, eval b X.env)] := by rfl) (hs2 : starEach [b] X.env = [(false, eval b X.env)] := by rfl) :
    DIP X c E tg (.Call (.Name "range" p) [a, b] [] pos) (fun ρ R => (l ρ R).bind fun xs R1 => if xs.length = 2 then ofO (rangeD xs) R1 else .stuck) := by
  refine PI.imp (pi_range2 hg hm ha hs hs2) fun σ H Q ⟨a0, S, ρ, R, w, en, p⟩ => tDL_of w en (ends_next p fun xs R1 p vs H1 w1 r1 => ?_)
  split at p
  · rename_i hl
    obtain ⟨ds, e, q⟩ := Ends.ofO p
    unfold rangeD at e
    split at e
    · cases hl
    · split at e
      · rename_i hj
        cases e
        obtain ⟨v, u, rfl, r8, r9⟩ := repA_two r1
        have := r8.int_inv; subst v
        have := r9.int_inv; subst u
        exact ⟨_, _, rfl, ⟨hj.1.1, hj.1.2, hj.2.1, hj.2.2⟩, q _ _ w1 fun _ _ => walks_range⟩
      · cases e
    · cases hl
    · cases e
  · exact p.elim
theorem dip_range3 {tg a b d : Expr} {l : DenL} {p pos : Pos} (ha : DEs X c E [a, b, d] l) (hm : X.mg "range" = none) (hg : Gl X "range" := by rfl) (hs : starEach [a, b, d] X.env = (false, eval a X.env) :: starEach [b, d] X.env := by rfl) (hpl : (backTo pos (starEach [b, d] X.env)).any (·.1) = false := by rfl) :
    DIP X c E tg (.Call (.Name "range" p) [a, b, d] [] pos) (fun ρ R => (l ρ R).bind fun xs R1 => if xs.length = 3 then ofO (rangeD xs) R1 else .stuck) := by
  refine PI.imp (pi_range3 hg hm ha hs hpl) fun σ H Q ⟨a0, S, ρ, R, w, en, p⟩ => tDL_of w en (ends_next p fun xs R1 p vs H1 w1 r1 => ?_)
  split at p
  · rename_i hl
    obtain ⟨ds, e, q⟩ := Ends.ofO p
    unfold rangeD at e
    split at e
    · cases hl
    · cases hl
    · split at e
      · rename_i hj
        cases e
        obtain ⟨v, u, z, rfl, r8, r9, r10⟩ := repA_three r1
        have := r8.int_inv; subst v
        have := r9.int_inv; subst u
        have := r10.int_inv; subst z
        exact ⟨_, _, _, _, rfl, RgC.neg hj.1.1 hj.1.2 hj.2.1 hj.2.2, q _ _ w1 fun _ _ => walks_rangeC⟩
      · cases e
    · cases e
  · exact p.elim

/-! ### while -/
def whileM (t : DenB) (body : DenS) : Nat → Env → Row → Res Fl
  | 0, _, _ => .stuck
  | n + 1, ρ, R => (t ρ R).bind fun b R1 => if b then (body ρ R1).bind fun fl R2 => match fl with
      | .nx ρ1 => whileM t body n ρ1 R2
      | .ct ρ1 => whileM t body n ρ1 R2
      | .bk ρ1 => .ok (.nx ρ1) R2
      | .rt v => .ok (.rt v) R2
    else .ok (.nx ρ) R1
def sWhile (n : Nat) (t : DenB) (body : DenS) : DenS := fun ρ R => whileM t body n ρ R
theorem ds_while (n : Nat) {t : Expr} {body : List Stmt} {dt : DenB} {db : DenS} (hp : PassesOwn (model X.prog X.w) X.A X.env X.xe) (ht : DT X c E t dt) (hb : DSs X c E O O O body db) : DS X c E OL O O (.While t body [] pos) (sWhile n dt db) := by
  refine PS.imp (ps_while hp ht hb) fun D σ H ⟨a0, S, H0, Vi, ρ, R, st, p⟩ => ?_
  refine ⟨fun m σ H => ∃ ρ R, StOk X.K c a0 S H0 Vi O ρ R σ H ∧ Ends (whileM dt db m ρ R) (EndF X.K c OL O D a0 S H0 Vi) (Ex X.K c E a0 S H0), ⟨n, ρ, R, st, p⟩, ?_⟩
  rintro m σ H ⟨ρ, R, st, p⟩
  cases m with
  | zero => exact p.elim
  | succ m =>
    refine tDB_st st (Ends.bind p) fun b R' q H' st' => ?_
    cases b with
    | false => exact q σ H' st'
    | true =>
      refine ⟨fun σ' H' => ∃ ρ R, StOk X.K c a0 S H0 Vi O ρ R σ' H' ∧ Ends (whileM dt db m ρ R) (EndF X.K c OL O D a0 S H0 Vi) (Ex X.K c E a0 S H0), fun σ' H' h => ⟨m, Nat.lt_succ_self m, h⟩, ?_⟩
      refine ⟨a0, S, H0, Vi, ρ, R', st', (Ends.bind q).mono (fun fl R2 z => ?_) fun _ _ z => z⟩
      cases fl with
      | nx ρ1 => exact fun σ4 H4 st4 => ⟨ρ1, R2, st4, z⟩
      | ct ρ1 => exact fun σ4 H4 st4 => ⟨ρ1, R2, st4, z⟩
      | bk ρ1 => exact fun σ4 H4 st4 => z σ4 H4 st4
      | rt v => exact z
/-! ### x += e, of ints -/
def ipD (f : Int → Int → Int) : PyData → PyData → Option PyData
  | .int a, .int b => some (.int (f a b))
  | _, _ => none
def sAug (i : Nat) (f : Int → Int → Int) (e : Den) : DenS := fun ρ R => (ofO (valAt ρ i) R).bind fun x R1 => (e ρ R1).bind fun y R2 => (ofO (ipD f x y) R2).bind fun z R3 => .ok (.nx (ρ.set i (some z))) R3
theorem ds_aug (i : Nat) {x : Str} {e : Expr} {op : Operator} {f : Int → Int → Int} {d : Den} {pos' : Pos} (ho : PIp X op (ipI f)) (hN : X.N.Nodup) (h : DE X c E e d) (hi : X.N[i]? = some x := by rfl) (hx : Loc X.env.scope x := by first | exact Or.inl rfl | exact Or.inr rfl) (hf : X.fn x = true ∨ X.env.scope.names.lookup x = some .local := by first | exact .inl rfl | exact .inr rfl) :
    DS X c E OL O (minus O [i]) (.AugAssign (.Name x pos') op e pos) (sAug i f d) := by
  refine PS.imp (ps_aug hN hi hx h ho hf) fun D σ H ⟨a0, S, H0, Vi, ρ, R, st, p⟩ => ?_
  obtain ⟨v, hv, p⟩ := Ends.ofO (Ends.bind p)
  have hρ := join_some hv
  have env0 : EnvR X.K a0 (hide H S) ρ σ := by obtain ⟨A, sa, _⟩ := st; exact sa.env
  obtain ⟨u, e1, r1⟩ := env0.2 i v hρ
  refine ⟨u, e1, tD_st st (Ends.bind p) fun y R2 p u2 H2 w2 st2 r2 => ?_⟩
  obtain ⟨z, hz, q⟩ := Ends.ofO (Ends.bind p)
  unfold ipD at hz
  split at hz
  · cases hz
    have := r1.int_inv; subst u
    have := r2.int_inv; subst u2
    refine ⟨_, _, rfl, rfl, ?_⟩
    obtain ⟨A, sa, h1, h2⟩ := st2
    have hlt : i < ρ.length := (List.getElem?_eq_some_iff.mp hρ).1
    have o2 : ∀ (zz : Option PyData) j, j ∉ [i] → (ρ.set i zz)[j]? = ρ[j]? := fun zz j hj => List.getElem?_set_ne fun z => hj (by rw [z]; exact List.mem_cons_self)
    obtain ⟨q1, q2⟩ := own_minus (o2 _) h1 h2
    refine q _ _ ⟨_, sa.store (vs := [i]) (by rw [List.length_set]) (o2 _) (by rw [List.length_set]) (fun j hj => List.getElem?_set_ne fun z => hj (by rw [z]; exact List.mem_cons_self)) fun j hj d' h => ?_, q1, q2⟩
    have : j = i := by simpa using hj
    subst this
    rw [List.getElem?_set_self hlt] at h
    cases h
    exact ⟨_, by rw [List.getElem?_set_self (by rw [← sa.len]; exact hlt)], .int _⟩
  · cases hz
end
end Ev

/-! Ev: the law's row -/
namespace Ev
open PySem PySem.Spec PyProof.Rows L2
theorem row_inv {K : PySem.W.Frag} {a0 : Addr} {H : Hp} {v : V} (r : Rep K a0 H v rowD) : v = .ref a0 := by
  obtain ⟨a, e, q⟩ := r.dict_inv
  rcases q with ⟨kvs, _, q⟩ | ⟨kvs, _, q⟩ | ⟨e2, _⟩
  · generalize e3 : [(PyData.none, PyData.none)] = ps at q
    cases q with
    | nil => cases e3
    | @cons k v vs d ds h r =>
      have e4 := congrArg Prod.fst (List.cons.inj e3).1
      cases k <;> cases e4
  · generalize e3 : [(PyData.none, PyData.none)] = ps at q
    cases q with
    | nil => cases e3
    | @cons k v vs d ds h r =>
      have e4 := congrArg Prod.fst (List.cons.inj e3).1
      cases e4
  · rw [e, e2]
/-- is the datum the row's mark -/
def isRow : PyData → Bool
  | .dict [(.none, .none)] => true
  | _ => false
theorem isRow_eq {d : PyData} (h : isRow d = true) : d = rowD := by
  unfold isRow at h
  split at h
  · rfl
  · cases h
def Row.get (R : Row) : Nat → Option Int
  | 1 => some R.i
  | 2 => some R.m
  | 3 => some R.c
  | _ => none
def Row.put (R : Row) : Nat → Int → Option Row
  | 1, z => some { R with i := z }
  | 2, z => some { R with m := z }
  | 3, z => some { R with c := z }
  | _, _ => none
def rowAt (ρ : Env) (i : Nat) : Option Unit := (ρ[i]?.join).bind fun d => if isRow d then some () else none
theorem rowAt_some {ρ : Env} {i : Nat} (h : rowAt ρ i = some ()) : ρ[i]? = some (some rowD) := by
  obtain ⟨d, h1, h2⟩ := Option.bind_eq_some_iff.mp h
  split at h2
  · rename_i hr
    rw [join_some h1, isRow_eq hr]
  · cases h2
section
variable {X : Cx} {c : Cfg} {E : XK} {OL O : List Nat} {pos : Pos}
/-- row[k] -/
def dRow (i k : Nat) : Den := fun ρ R => (ofO (rowAt ρ i) R).bind fun _ R => (ofO (R.get k) R).bind fun z R => .ok (.int z) R
theorem de_row (i k : Nat) {x : Str} {j} {p1 p2 : Pos} (hN : X.N[i]? = some x := by rfl) (hv : Vis X.env.scope x := by first | exact Or.inl rfl | exact Or.inr (Or.inl rfl) | exact Or.inr (Or.inr rfl)) (hd : (x == ("__debug__" : Str)) = false := by decide) (hcd : (x == ("__classdict__" : Str)) = false := by decide) :
    DE X c E (.Subscript (.Name x p1) (.Constant (.int (k : Nat)) j p2) pos) (dRow i k) := by
  refine PE.imp (pe_ix ix_list (pe_var hN hv hd hcd) pe_int (fun _ _ => rfl)) fun σ H Q ⟨a0, S, ρ, R, w, en, p⟩ => ?_
  obtain ⟨_, hr, p⟩ := Ends.ofO (Ends.bind p)
  obtain ⟨z, hz, q⟩ := Ends.ofO (Ends.bind p)
  obtain ⟨v, e1, r1⟩ := en.2 i _ (rowAt_some hr)
  have := row_inv r1; subst v
  obtain ⟨sc, h1, h2⟩ := w.row
  refine ⟨_, e1, a0, _, _, .int z, rfl, rfl, .inl (.inl h1), ?_, q _ H w (.int _)⟩
  unfold Row.get at hz
  split at hz <;> first | (cases hz; done) | (cases hz; rfl)
/-- len(row[0]) -/
def dRowLen (i : Nat) : Den := fun ρ R => (ofO (rowAt ρ i) R).bind fun _ R => .ok (.int R.ns.length) R
theorem de_rowLen (i : Nat) {x : Str} {j} {p p1 p2 p3 : Pos} (hm : X.mg "len" = none) (hg : Gl X "len" := by rfl) (hN : X.N[i]? = some x := by rfl) (hv : Vis X.env.scope x := by first | exact Or.inl rfl | exact Or.inr (Or.inl rfl) | exact Or.inr (Or.inr rfl)) (hd : (x == ("__debug__" : Str)) = false := by decide) (hcd : (x == ("__classdict__" : Str)) = false := by decide) :
    DE X c E (.Call (.Name "len" p) [.Subscript (.Name x p1) (.Constant (.int 0) j p2) p3] [] pos) (dRowLen i) := by
  refine PE.imp (pe_callB call_len_seq hg hm (by decide +kernel) (pa_cons (pe_ix ix_list (pe_var hN hv hd hcd) pe_int (fun _ _ => rfl)) pa_nil)) fun σ H Q ⟨a0, S, ρ, R, w, en, p⟩ => ?_
  obtain ⟨_, hr, q⟩ := Ends.ofO (Ends.bind p)
  obtain ⟨v, e1, r1⟩ := en.2 i _ (rowAt_some hr)
  have := row_inv r1; subst v
  obtain ⟨sc, h1, h2⟩ := w.row
  refine ⟨_, e1, a0, _, _, .ref sc, rfl, rfl, .inl (.inl h1), rfl, sc, _, rfl, .inl h2.sqL, ?_⟩
  rw [List.length_map]
  exact q _ H w (.int _)
/-- row[0][e] -/
def dRowCell (i : Nat) (e : Den) : Den := fun ρ R => (ofO (rowAt ρ i) R).bind fun _ R => (e ρ R).bind fun x R1 => match x with
  | .int k => (ofO (atI R1.ns k) R1).bind fun z R2 => .ok (.int z) R2
  | _ => .stuck
theorem wd_ns {K : PySem.W.Frag} {a0 : Addr} {S : List Addr} {H H1 : Hp} {R R1 : Row} (w : Wd K c a0 S H H R) (w1 : Wd K c a0 S H H1 R1) {sc : Addr} {xs : List V} (h : SqF K H sc xs) : SqF K H1 sc xs := by
  rcases h with ⟨o, h⟩ | h
  · refine .inl ⟨o, w1.gr sc _ (fun z => ?_) h nt_frz⟩
    obtain ⟨sc', h1, _⟩ := w.row
    rw [z, h1] at h
    cases h
  · exact .inr h
theorem de_rowCell (i : Nat) {x : Str} {j} {e : Expr} {d : Den} {p1 p2 p3 : Pos} (h : DE X c E e d) (hns : ∀ ρ R x R', d ρ R = .ok x R' → R' = R) (hs : PlainIx e := by exact fun _ _ => rfl) (hN : X.N[i]? = some x := by rfl) (hv : Vis X.env.scope x := by first | exact Or.inl rfl | exact Or.inr (Or.inl rfl) | exact Or.inr (Or.inr rfl)) (hd : (x == ("__debug__" : Str)) = false := by decide) (hcd : (x == ("__classdict__" : Str)) = false := by decide) :
    DE X c E (.Subscript (.Subscript (.Name x p1) (.Constant (.int 0) j p2) p3) e pos) (dRowCell i d) := by
  refine PE.imp (pe_ix ix_list (pe_ix ix_list (pe_var hN hv hd hcd) pe_int (fun _ _ => rfl)) h hs) fun σ H Q ⟨a0, S, ρ, R, w, en, p⟩ => ?_
  obtain ⟨_, hr, p2⟩ := Ends.ofO (Ends.bind p)
  clear p
  obtain ⟨v, e1, r1⟩ := en.2 i _ (rowAt_some hr)
  have := row_inv r1; subst v
  obtain ⟨sc, h1, h2⟩ := id w.row
  refine ⟨_, e1, a0, _, _, .ref sc, rfl, rfl, .inl (.inl h1), rfl, ?_⟩
  cases hd : d ρ R with
  | stuck => rw [hd] at p2; exact p2.elim
  | exc nm R1 =>
    rw [hd] at p2
    refine tD_of w en ?_
    rw [hd]
    exact p2
  | ok x R1 =>
    rw [hd, bind_ok] at p2
    have eR := hns _ _ _ _ hd
    subst eR
    refine tD_of w en ?_
    rw [hd]
    intro v H1 w1 r1
    split at p2
    · obtain ⟨z, hz, q⟩ := Ends.ofO (Ends.bind p2)
      have := r1.int_inv; subst v
      refine ⟨sc, _, _, .int z, rfl, rfl, (wd_ns w w1 h2).sqL, ?_, q _ H1 w1 (.int _)⟩
      unfold L2.atI at hz ⊢
      rw [List.length_map]
      obtain ⟨k, hk1, hk2⟩ := Option.bind_eq_some_iff.mp hz
      rw [hk1]
      show (List.map V.int R1.ns)[k]? = _
      rw [List.getElem?_map, hk2]
      rfl
    · exact p2.elim
/-- row[k] = e -/
def sRow (i k : Nat) (e : Den) : DenS := fun ρ R => (e ρ R).bind fun x R1 => (ofO (rowAt ρ i) R1).bind fun _ R1 => match x with
  | .int z => (ofO (R1.put k z) R1).bind fun R2 _ => .ok (.nx ρ) R2
  | _ => .stuck
theorem Wd.setRow {K : PySem.W.Frag} {a0 : Addr} {S : List Addr} {H0 H : Hp} {R R' : Row} (w : Wd K c a0 S H0 H R) (hn : R'.ns = R.ns) {sc : Addr} (h1 : H a0 = some (.lst [.ref sc, .int R.i, .int R.m, .int R.c])) (h2 : SqF K H sc (R.ns.map V.int)) : Wd K c a0 S H0 (upd H a0 (.lst [.ref sc, .int R'.i, .int R'.m, .int R'.c])) R' where
  a0S := w.a0S
  sS := w.sS
  gr := fun b o nb e n => by rw [upd_ne nb]; exact w.gr b o nb e n
  row := by
    refine ⟨sc, upd_same, ?_⟩
    rw [hn]
    rcases h2 with ⟨o, h2⟩ | h2
    · refine .inl ⟨o, ?_⟩
      rw [upd_ne fun z => by subst z; rw [h1] at h2; cases h2]
      exact h2
    · exact .inr h2
  tabs := tabs_keep w.tabs fun b o e n => by
    rw [upd_ne fun z => by subst z; rw [h1] at e; cases e; exact n _ rfl]
    exact e
theorem StA.setRow {K : PySem.W.Frag} {a0 : Addr} {S : List Addr} {H0 Vi H : Hp} {A : List (Nat × Addr)} {ρ : Env} {R R' : Row} {σ : L2.St} (st : StA K c a0 S H0 Vi A ρ R σ H) (hn : R'.ns = R.ns) {sc : Addr} (h1 : H a0 = some (.lst [.ref sc, .int R.i, .int R.m, .int R.c])) (h2 : SqF K H sc (R.ns.map V.int)) :
    StA K c a0 S H0 Vi A ρ R' σ (upd H a0 (.lst [.ref sc, .int R'.i, .int R'.m, .int R'.c])) := by
  have he : hide (upd H a0 (.lst [.ref sc, .int R'.i, .int R'.m, .int R'.c])) (A.map (·.2) ++ S) = hide H (A.map (·.2) ++ S) := by
    funext b
    by_cases hb : b ∈ A.map (·.2) ++ S
    · rw [hide_in hb, hide_in hb]
    · rw [hide_out hb, hide_out hb, upd_ne fun z => hb (by rw [z]; exact List.mem_append_right _ st.w.a0S)]
  refine ⟨st.w.setRow hn h1 h2, st.nd1, st.nd2, fun p hp => ?_, st.len, by rw [he]; exact st.rest, by rw [he]; exact st.vis⟩
  obtain ⟨f, e1, d, e2, ho⟩ := st.own p hp
  refine ⟨f, e1, d, e2, ?_⟩
  rw [he]
  refine ho.mono (Sub.refl _) fun o e _ => ?_
  rw [upd_ne fun z => st.notS hp (by rw [z]; exact st.w.a0S)]
  exact e
theorem ds_row (i k : Nat) {x : Str} {e : Expr} {d : Den} {j} {p1 p2 tpos : Pos} (h : DE X c E e d) (hN : X.N[i]? = some x := by rfl) (hv : Vis X.env.scope x := by first | exact Or.inl rfl | exact Or.inr (Or.inl rfl) | exact Or.inr (Or.inr rfl)) (hd : (x == ("__debug__" : Str)) = false := by decide) (hcd : (x == ("__classdict__" : Str)) = false := by decide)
    (hs : swapsWithSole [.Subscript (.Name x p1) (.Constant (.int (k : Nat)) j p2) tpos] e pos.line X.env = pure false := by rfl) (hw : swappedStores [.Subscript (.Name x p1) (.Constant (.int (k : Nat)) j p2) tpos] e X.env = pure none := by rfl) (h1 : (assignEach [.Subscript (.Name x p1) (.Constant (.int (k : Nat)) j p2) tpos] X.env).map (·.2) = [assign (.Subscript (.Name x p1) (.Constant (.int (k : Nat)) j p2) tpos) X.env] := by rfl)
    (ha : ∀ v, assign (.Subscript (.Name x p1) (.Constant (.int (k : Nat)) j p2) tpos) X.env v = (do
      let ov ← holding [v] (eval (.Name x p1) X.env)
      let iv ← holding [v, ov] (eval (.Constant (.int (k : Nat)) j p2) X.env)
      standAt tpos
      holding [v, ov, iv] (setItem ov iv v)
      release [v, ov, iv] []) := by intro _; rfl) :
    DS X c E OL O O (.Assign [.Subscript (.Name x p1) (.Constant (.int (k : Nat)) j p2) tpos] e pos) (sRow i k d) := by
  refine PS.imp (ps_asg h (pg_sub (pe_var hN hv hd hcd) pe_int set_list ha) hs hw h1) fun D σ H ⟨a0, S, H0, Vi, ρ, R, st, p⟩ => ?_
  refine tD_st st (Ends.bind p) fun v R1 p v1 H1 w1 st1 r1 => ?_
  obtain ⟨_, hr, p⟩ := Ends.ofO (Ends.bind p)
  obtain ⟨A, sa, h1, h2⟩ := st1
  obtain ⟨u, e1, r2⟩ := sa.env.2 i _ (rowAt_some hr)
  have := row_inv r2; subst u
  obtain ⟨sc, hl, hq⟩ := sa.w.row
  split at p
  · rename_i z _
    obtain ⟨R2, hz, q⟩ := Ends.ofO (Ends.bind p)
    have := r1.int_inv; subst v1
    have hp : ∃ m, ixN 4 ((k : Nat) : Int) = some m ∧ ([V.ref sc, .int R1.i, .int R1.m, .int R1.c].set m (.int z)) = [V.ref sc, .int R2.i, .int R2.m, .int R2.c] ∧ R2.ns = R1.ns := by
      unfold Row.put at hz
      split at hz <;> first | (cases hz; done) | (cases hz; exact ⟨_, rfl, rfl, rfl⟩)
    obtain ⟨m, hm, hset, hns⟩ := hp
    refine ⟨_, e1, a0, _, _, m, rfl, rfl, hl, hm, ?_⟩
    rw [hset]
    exact q σ _ ⟨A, sa.setRow hns hl hq, h1, h2⟩
  · exact p.elim
end
end Ev

/-! Ev: defs -/
namespace Ev
open PySem PySem.Spec PyProof.Rows L2

/-! ### a def by its body -/
def callF (j : Nat) (den : DenS) : List PyData → Row → Res PyData := fun ds R => (den (ds.map some ++ List.replicate j none) R).bind fun fl R1 => match fl with
  | .nx _ => .ok .none R1
  | .rt d => .ok d R1
  | _ => .stuck
structure FunC (K : PySem.W.Frag) (x : Str) (st : Stmt) (f : Addr) (fd : FuncData) (cdv : Value) : Prop where
  ex : ∃ (oc : Value) (od : Option Addr) (kV doc pm : Value) (an : Option Addr) (ct : Value) (osl : Array (Option Value)),
    fd = PySem.W.fnOf x x (defArgs st) (defBody st) (defScope st) .none kV doc pm an cdv ct ∧ K.lookup f = some ⟨oc, od, .func fd, osl⟩ ∧ PySem.W.codeIn K cdv x = true
  kp : PySem.W.keepIn K (.ref f) = true
section
variable {P : Program} {w : World} {K : PySem.W.Frag} {mg : Str → Option Value} {base : Heap} {c : Cfg}
theorem funC_mk {x : Str} {st : Stmt} {f : Addr} {oc : Value} {od an : Option Addr} {osl : Array (Option Value)} {kV doc pm cdv ct : Value} (l : K.lookup f = some ⟨oc, od, .func (PySem.W.fnOf x x (defArgs st) (defBody st) (defScope st) .none kV doc pm an cdv ct), osl⟩) (c : PySem.W.codeIn K cdv x = true) (k : PySem.W.keepIn K (.ref f) = true) : FunC K x st f (PySem.W.fnOf x x (defArgs st) (defBody st) (defScope st) .none kV doc pm an cdv ct) cdv :=
  ⟨⟨oc, od, kV, doc, pm, an, ct, osl, rfl, l, c⟩, k⟩
theorem start_env {N : List Str} {a0 : Addr} {H : Hp} {vs : List V} {ds : List PyData} {j : Nat} (h : N.length = ds.length + j) (r : RepA K a0 H vs ds) : EnvR K a0 H (ds.map some ++ List.replicate j none) (L2.start N vs) := by
  have hl := r.length
  refine ⟨?_, fun i d e => ?_⟩
  · unfold L2.start
    rw [List.length_append, List.length_append, List.length_map, List.length_map, List.length_replicate, List.length_replicate]
    omega
  · unfold L2.start
    by_cases c : i < ds.length
    · rw [List.getElem?_append_left (by rw [List.length_map]; exact c), List.getElem?_map] at e
      rw [List.getElem?_append_left (by rw [List.length_map]; omega), List.getElem?_map]
      obtain ⟨y, hy, e⟩ := Option.map_eq_some_iff.mp e
      cases e
      obtain ⟨u, h1, h2⟩ := r.get hy
      exact ⟨u, by rw [h1]; rfl, h2⟩
    · rw [List.getElem?_append_right (by rw [List.length_map]; omega), List.length_map] at e
      by_cases c2 : i - ds.length < j
      · rw [List.getElem?_replicate_of_lt c2] at e
        cases e
      · rw [List.getElem?_eq_none (by rw [List.length_replicate]; omega)] at e
        cases e
theorem st_start {E : XK} {N : List Str} {a0 : Addr} {S : List Addr} {H : Hp} {R : Row} {vs : List V} {ds : List PyData} {j : Nat} (h : N.length = ds.length + j) (w : Wd K c a0 S H H R) (r : RepA K a0 (hide H S) vs ds) :
    StOk K c a0 S H (hide H S) [] (ds.map some ++ List.replicate j none) R (L2.start N vs) H := by
  have e := start_env h r
  refine ⟨[], ⟨w, List.nodup_nil, List.nodup_nil, fun p hp => by simp at hp, e.1, fun i d h _ => e.2 i d h, Sub.refl _⟩, fun i hi => by simp at hi, fun i hi => by simp at hi⟩
theorem spD_len {np : Nat} {F : List PyData → Row → Res PyData} {vs : List V} {H : Hp} {Q : VK} {E : XK} (h : spD K c np F vs H Q E) : vs.length = np := by
  obtain ⟨_, _, _, _, h1, _, h2, _⟩ := h
  rw [h2.length, h1]
theorem call_ends {O' OL : List Nat} {E : XK} {den : DenS} {j : Nat} {N : List Str} {np : Nat} {vs : List V} {H : Hp} {Q : VK} (hN : N.length = np + j) (h : spD K c np (callF j den) vs H Q E) :
    tS K c E OL [] O' den { nx := fun _ H' => Q .non H', rt := Q } (L2.start N vs) H := by
  obtain ⟨a0, S, R, ds, hl, w, r, q⟩ := h
  refine ⟨a0, S, H, hide H S, _, R, st_start (E := E) (j := j) (by omega) w r, (Ends.bind q).mono (fun fl R1 q1 => ?_) fun _ _ x => x⟩
  cases fl with
  | nx ρ => exact fun σ' H' ⟨A, sa, _⟩ => q1 _ _ sa.w .non
  | rt d => exact q1
  | bk ρ => exact q1.elim
  | ct ρ => exact q1.elim
/-- a def, its body as a denotation; cdv: where its code lies -/
theorem fn_body {x : Str} {st : Stmt} {f : Addr} {fd : FuncData} {cdv : Value} {N ps : List Str} {k j : Nat} {OL O' : List Nat} {den : DenS} (F : FunC K x st f fd cdv) (S : FnScope N ps (defScope st)) (hm : mg x = some (.ref f)) (hN : N.length = ps.length + j)
    (hb : ∀ (kV doc pm : Value) (an : Option Addr) (cdv ct : Value) (us : List Value), us.length = ps.length → bindArgs (PySem.W.fnOf x x (defArgs st) (defBody st) (defScope st) .none kV doc pm an cdv ct) ⟨us, []⟩ = pure (ps.zip us))
    (hk : ∀ (kV doc pm : Value) (an : Option Addr) (cdv ct : Value) (us ws : List Value) (ks : List Str), ks = ps.drop us.length → (us ++ ws).length = ps.length → ws ≠ [] → bindArgs (PySem.W.fnOf x x (defArgs st) (defBody st) (defScope st) .none kV doc pm an cdv ct) ⟨us, ks.zip ws⟩ = pure (ps.zip (us ++ ws)))
    (hbody : ∀ (A : Around) (outer : List PySem.Env) (s : Shared) (H : Hp) (E : XK), Room k (A.deeper (envOfC x (defScope st) s.heap.objs.size f cdv)) →
      DSs (cxOf (L2.CX P w) P w K mg base N x (defScope st) f cdv A outer s H E) c E OL [] O' (defBody st) den) : Fn P w K mg base c (k + 1) x ps (callF j den) := by
  obtain ⟨⟨oc, od, kV, doc, pm, an, ct, osl, rfl, lk, hcd⟩, kp⟩ := F
  refine ⟨f, PySem.W.fnOf x x (defArgs st) (defBody st) (defScope st) .none kV doc pm an cdv ct, ?_, hm, kp, fun us h => hb kV doc pm an cdv ct us h, fun us ws ks h1 h2 h3 => hk kV doc pm an cdv ct us ws ks h1 h2 h3⟩
  exact fn_of lk hcd S (fun vs H Q E h => spD_len h) fun A outer s H vs Q E hr h => ⟨_, hbody A outer s H E hr, call_ends hN h⟩
/-- a def whose depth is not enough: nothing is promised -/
theorem fn_none {x : Str} {st : Stmt} {f : Addr} {fd : FuncData} {cdv : Value} {ps : List Str} {k : Nat} (F : FunC K x st f fd cdv) (hm : mg x = some (.ref f))
    (hb : ∀ (kV doc pm : Value) (an : Option Addr) (cdv ct : Value) (us : List Value), us.length = ps.length → bindArgs (PySem.W.fnOf x x (defArgs st) (defBody st) (defScope st) .none kV doc pm an cdv ct) ⟨us, []⟩ = pure (ps.zip us))
    (hk : ∀ (kV doc pm : Value) (an : Option Addr) (cdv ct : Value) (us ws : List Value) (ks : List Str), ks = ps.drop us.length → (us ++ ws).length = ps.length → ws ≠ [] → bindArgs (PySem.W.fnOf x x (defArgs st) (defBody st) (defScope st) .none kV doc pm an cdv ct) ⟨us, ks.zip ws⟩ = pure (ps.zip (us ++ ws))) :
    Fn P w K mg base c k x ps (fun _ _ => .stuck) := by
  obtain ⟨⟨oc, od, kV, doc, pm, an, ct, osl, rfl, lk, hcd⟩, kp⟩ := F
  refine ⟨f, PySem.W.fnOf x x (defArgs st) (defBody st) (defScope st) .none kV doc pm an cdv ct, ⟨fun vs H Q E h => spD_len h, fun A outer s H args us vs Q E _ _ _ _ h => ?_⟩, hm, kp, fun us h => hb kV doc pm an cdv ct us h, fun us ws ks h1 h2 h3 => hk kV doc pm an cdv ct us ws ks h1 h2 h3⟩
  obtain ⟨_, _, _, _, _, _, _, q⟩ := h
  exact q.elim
end
theorem cx_takes {CX0 : Nat} {P : Program} {w : World} {K : PySem.W.Frag} {mg : Str → Option Value} {base : Heap} {N : List Str} {q : Str} {sc : Scope} {f : Addr} {cdv : Value} {A : Around} {outer : List PySem.Env} {s : Shared} {H : Hp} {E : XK} : Takes (cxOf (L2.CX P w) P w K mg base N q sc f cdv A outer s H E) (fun cls d _ H => E cls d H) := takes_of rfl rfl rfl rfl
theorem cx_pass {P : Program} {w : World} {K : PySem.W.Frag} {mg : Str → Option Value} {base : Heap} {N : List Str} {q : Str} {sc : Scope} {f : Addr} {cdv : Value} {A : Around} {outer : List PySem.Env} {s : Shared} {H : Hp} {E : XK} : Passes (L2.CX P w) (cxOf (L2.CX P w) P w K mg base N q sc f cdv A outer s H E) E := passes_call (cx_takes (CX0 := 0)) fun _ _ _ _ h => h

/-! ### BadArgument -/
def iB (q1 q2 q3 q4 : Pos) : List Stmt := [.Assign [.Attribute (.Name "self" q1) "name" q2] (.Name "name" q3) q4]
/-- what the text has written of BadArgument, at C -/
structure Bad (P : Program) (w : World) (K : PySem.W.Frag) (mg : Str → Option Value) (base : Heap) (C : Addr) : Prop where
  gC : mg "BadArgument" = some (.ref C)
  ox : OexC K C
  xf : XfC K C
  noN : PySem.W.findIn K (.ref C) "name" = some none
  te : PySem.W.exmOne K (.ref C) (.ref C) = some true
  init : ∃ (fI : Addr) (fd : FuncData), PySem.W.findIn K (.ref C) "__init__" = some (some (.ref fI)) ∧ PySem.W.typeIn K (.ref fI) = some (.type "function") ∧ Binds K fd ["self", "name"] [] ∧
    FnOk P w K mg base (L2.CX P w) 1 fI fd ["self", "name"] fun vs H Q _ => ∃ (a : Addr) (y : V), vs = [.ref a, y] ∧ H a = some (exo a C none) ∧ ∀ dx, H dx = none → dx ≠ a → Q .non (upd (upd H dx (exd dx [("name", y)])) a (exo a C (some dx)))
theorem scI {st : Stmt} (h : defScope st = { kind := .function, names := [(PySem.Str.ofString "self", .local), (PySem.Str.ofString "name", .local)], isGenerator := false, isCoroutine := false, more := [] }) : FnScope ["self", "name"] ["self", "name"] (defScope st) := by
  rw [h]
  exact ⟨rfl, rfl, rfl, by decide +kernel, rfl, by decide +kernel, by decide +kernel⟩
theorem ok_init {P : Program} {w : World} {K : PySem.W.Frag} {mg : Str → Option Value} {base : Heap} {C fI : Addr} {fd : FuncData} {st : Stmt} {q1 q2 q3 q4 : Pos} (F : Fun K "__init__" "BadArgument.__init__" st fI fd) (hs : defScope st = { kind := .function, names := [(PySem.Str.ofString "self", .local), (PySem.Str.ofString "name", .local)], isGenerator := false, isCoroutine := false, more := [] })
    (hbd : defBody st = iB q1 q2 q3 q4) (T : OexC K C) (noN : PySem.W.findIn K (.ref C) "name" = some none) :
    FnOk P w K mg base (L2.CX P w) 1 fI fd ["self", "name"] fun vs H Q _ => ∃ (a : Addr) (y : V), vs = [.ref a, y] ∧ H a = some (exo a C none) ∧ ∀ dx, H dx = none → dx ≠ a → Q .non (upd (upd H dx (exd dx [("name", y)])) a (exo a C (some dx))) := by
  refine F.okX (scI hs) (fun vs H Q E ⟨a, y, h, _⟩ => by rw [h]; rfl) fun cdv A outer s H vs Q E hr ⟨a, y, h, ha, q⟩ => ?_
  rw [hbd, hs]
  refine ⟨_, pss_one (ps_ost (pe_var (i := 0) rfl (Or.inl rfl)) (pe_var (i := 1) rfl (Or.inl rfl))), ?_⟩
  subst h
  exact ⟨_, rfl, _, rfl, a, C, rfl, T, noN, .inl ⟨ha, fun dx hd hne => q dx hd hne⟩⟩
section
variable {X : Cx} {c : Cfg} {E : XK} {OL O O' : List Nat} {p pos pos2 : Pos}
/-- the exception's dict is tracked, the exception itself is not -/
theorem Wd.raised {K : PySem.W.Frag} {a0 : Addr} {S : List Addr} {H H1 : Hp} {R : Row} (w1 : Wd K c a0 S H H1 R) {a dx : Addr} {o0 o1 o2 : HO} (ha : H1 a = none) (hd : H1 dx = none) (hne : dx ≠ a) {fs : List (Str × V)} :
    Wd K c a0 S H (upd (del (upd (upd (upd H1 a o0) dx o1) a o2) a) dx (.xd fs)) R := by
  have key : ∀ b o, H1 b = some o → (upd (del (upd (upd (upd H1 a o0) dx o1) a o2) a) dx (.xd fs)) b = some o := fun b o e => by
    have n1 : b ≠ a := ne_of_none e ha
    have n2 : b ≠ dx := ne_of_none e hd
    rw [upd_ne n2, del_ne n1, upd_ne n1, upd_ne n2, upd_ne n1]
    exact e
  refine ⟨w1.a0S, w1.sS, fun b o n e z => key b o (w1.gr b o n e z), ?_, w1.tabs.ext key⟩
  obtain ⟨sc, h, f⟩ := w1.row
  exact ⟨sc, key _ _ h, f.mono fun o u e => key _ _ e⟩
def sRaise (d : Den) : DenS := fun ρ R => (d ρ R).bind fun v R1 => match v with
  | .str nm => .exc nm R1
  | _ => .stuck
theorem ds_raise {e : Expr} {d : Den} {k : Nat} (B : Bad X.prog X.w X.K X.mg X.base c.CB) (hc : X.calm = true) (hr : Room k X.A) (hk : 2 ≤ k) (tk : Takes X (fun cls d _ H => E cls d H)) (h : DE X c E e d) (hg : Gl X "BadArgument" := by rfl)
    (he : starEach (e :: []) X.env = (false, eval e X.env) :: starEach [] X.env := by rfl) (hpl : (backTo pos (starEach [] X.env)).any (·.1) = false := by rfl) :
    DS X c E OL O O' (.Raise (some (.Call (.Name "BadArgument" p) [e] [] pos)) none pos2) (sRaise d) := by
  obtain ⟨fI, fd, iC, tI, hb, ok⟩ := B.init
  refine PS.imp (ps_raise hc tk (pmk_oex (dvs := []) B.ox iC tI ok (hr.mono hk) hb .nil passL hg B.gC (pa_cons h pa_nil he) (by decide) he hpl)) fun D σ H ⟨a0, S, H0, Vi, ρ, R, st, q⟩ => ?_
  refine tD_st st (Ends.bind q) fun v R1 q v1 H1 w1 st1 r1 => ?_
  cases v with
  | str nm =>
    have := r1.str_inv; subst v1
    refine ⟨by show 1 ≤ 1000; decide, fun a ha => ⟨a, _, rfl, upd_same, fun dx hd hne => ⟨rfl, dx, [("name", .str nm)], upd_same, ?_, ?_, ?_⟩⟩⟩
    · rw [upd_ne hne, upd_same]
    · rw [← hd, upd_ne hne]
    · have hd1 : H1 dx = none := by rw [← hd, upd_ne hne]
      obtain ⟨A, sa, _⟩ := st1
      exact q dx _ (sa.w.raised ha hd1 hne) upd_same
  | _ => exact q.elim
end
end Ev

/-! Ev: what is refused -/
namespace Ev
open PySem PySem.Spec PyProof.Rows L2 LamX
def dRefused (d : Den) : Den := fun ρ R => match d ρ R with
  | .ok _ R1 => .ok (.str "") R1
  | .exc nm R1 => .ok (.str nm) R1
  | .stuck => .stuck
def TTb (CB : Addr) : (XK → Hp → VK → Prop) → Hp → VK → Prop := fun tl H Q =>
  tl (fun cls d H' => cls = .ref CB ∧ ∃ dd v, d = some dd ∧ H' dd = some (.xd [("name", v)]) ∧ Q v H') H (fun _ H' => Q (.str "") H')
section
variable {X : Cx} {c : Cfg} {E : XK}
theorem bad_gives {q : Str} {sg : Scope} {g : Addr} {cdg : Value} {j : Nat} {p1 p2 p3 p4 p5 p6 p7 p8 p9 p10 p11 : Pos} (B : Bad X.prog X.w X.K X.mg X.base c.CB) (hge : sg.names.lookup ("BadArgument" : Str) = some .globalImplicit) (hle : sg.names.lookup ("e" : Str) = some .local) :
    GivesTo X ["call", "e"] "_law_refused" sg g cdg [.Try [.Expr (.Call (.Name "call" p1) [] [] p2) p3] [.ExceptHandler (some (.Name "BadArgument" p4)) (some "e") [.Return (some (.Attribute (.Name "e" p5) "name" p6)) p7] p8] [] [] p9, .Return (some (.Constant (.str "") j p10)) p11] "call" q (TTb c.CB) := by
  intro f c' s H Q tl act hc h
  have hgl : Gl (cxOf C8.CX0 X.prog X.w X.K X.mg X.base ["call", "e"] "_law_refused" sg g cdg X.A X.stack s H C8.E0).nox "BadArgument" := hge
  refine ⟨_, pss_cons (ps_try_as (X := (cxOf C8.CX0 X.prog X.w X.K X.mg X.base ["call", "e"] "_law_refused" sg g cdg X.A X.stack s H C8.E0).nox) (c := .ref c.CB) (i := 1) (n := "e")
      (tb := fun W D σ H => ∃ Ech : XK, (∀ cls d (σ' : L2.St) H', σ'.length = 2 → Ech cls d H' → W cls d σ' H') ∧ σ[0]? = some (some (.ref f)) ∧ H c' = some (CodeO c' q) ∧ tl Ech H fun _ H' => D.nx σ H')
      (ts := fun a cls d => tRet (tXf a cls d c.CB "name" (tVar 1)))
      rfl rfl (show (["call", "e"] : List Str).Nodup by decide +kernel) rfl hle ⟨hgl, by decide +kernel, .inl B.gC⟩ L2.takes0 (fun W pn xe tk _ => ?_) (fun a oe cls d pn hz hf => pss_one (ps_ret (pe_xf B.xf B.noN hz hf (pe_var (i := 1) rfl (Or.inl hle)))))) (pss_one (ps_ret pe_str)), ?_⟩
  · refine ⟨fun pins s' σ H' D I h' => ?_⟩
    obtain ⟨Ech, hW, h1, h2, h3⟩ := h'
    have tk' : Takes ((cxOf C8.CX0 X.prog X.w X.K X.mg X.base ["call", "e"] "_law_refused" sg g cdg X.A X.stack s H C8.E0).tr pn xe) (fun cls d _ H' => Ech cls d H') := fun u s' ⟨a, B, sI, pins, σ, H, cls, d, e, I, nb, up, sky, na, os, ag, w⟩ =>
      tk u s' ⟨a, B, sI, pins, σ, H, cls, d, e, I, nb, up, sky, na, os, ag, hW _ _ _ _ I.len w⟩
    have hp := act _ pn xe Ech p1 p2 tk' fun _ _ _ _ z => z
    have hq := pss_one (ps_expr (pos := p3) hp)
    exact hq.run pins s' σ H' D I ⟨h1, h2, h3⟩
  · refine ⟨_, fun cls d σ' H' hl ⟨e1, dd, v, e2, e3, e4⟩ => ⟨true, by rw [e1]; exact B.te, fun _ a ha => ⟨_, by rw [List.getElem?_set_self (by omega)], rfl, e1, dd, _, v, e2, e3, by simp [List.lookup], e4⟩, fun z => by cases z⟩, rfl, hc, h⟩
/-- _law_refused(lambda: e) -/
theorem de_refused {g cc P : Addr} {k k0 : Nat} {pg : Arguments} {bg : List Stmt} {sg : Scope} {dV kV doc pm cdv ct oc : Value} {an od : Option Addr} {osl : Array (Option Value)} {params : Arguments} {body : Expr} {scope : Scope} {p lpos pos : Pos} {den : Den}
    {j : Nat} {p1 p2 p3 p4 p5 p6 p7 p8 p9 p10 p11 : Pos} (B : Bad X.prog X.w X.K X.mg X.base c.CB) (hm : X.mg "_law_refused" = some (.ref g)) (hk : PySem.W.keepIn X.K (.ref g) = true)
    (lk : X.K.lookup g = some ⟨oc, od, .func (PySem.W.fnOf "_law_refused" "_law_refused" pg bg sg dV kV doc pm an cdv ct), osl⟩) (hcg : PySem.W.codeIn X.K cdv "_law_refused" = true)
    (hb : L2.Binds X.K (PySem.W.fnOf "_law_refused" "_law_refused" pg bg sg dV kV doc pm an cdv ct) ["call"] []) (Sg : FnScope ["call", "e"] ["call"] sg)
    (hbg : bg = [.Try [.Expr (.Call (.Name "call" p1) [] [] p2) p3] [.ExceptHandler (some (.Name "BadArgument" p4)) (some "e") [.Return (some (.Attribute (.Name "e" p5) "name" p6)) p7] p8] [] [] p9, .Return (some (.Constant (.str "") j p10)) p11])
    (hge : sg.names.lookup ("BadArgument" : Str) = some .globalImplicit) (hle : sg.names.lookup ("e" : Str) = some .local) (hva : Vis sg "call")
    (TB : TabB X.base X.mg cc P) (hcode : X.env.code = .ref cc) (hmT : (P, X.env.qual ++ "<lambda>") ∈ c.T) (hu : ∀ p ∈ c.T, p.1 = P → p.2 = X.env.qual ++ "<lambda>") (hr : Room k0 X.A) (hk0 : k + 2 ≤ k0)
    (hbody : ∀ (A : Around) (outer : List PySem.Env) (s : Shared) (H : Hp) (E : XK) (f c' : Addr), Room k (A.deeper (lamEnv X scope s.heap.objs.size f c')) → DE (lamCx X A outer s H E scope f c') c E body den)
    (L : LamS X.env.scope scope := by exact lamS_by rfl) (hdef : defaultsOf params X.env = ([], []) := by rfl)
    (hbind : ∀ (q : Str) (cl : List (Str × Addr)) (pm cv ctv : Value), bindArgs (PySem.W.kla_fn "<lambda>" q params body scope cl pm cv ctv) ⟨[], []⟩ = pure [] := by intros; rfl) (hg : Gl X "_law_refused" := by rfl) :
    DE X c E (.Call (.Name "_law_refused" p) [.Lambda params body scope lpos] [] pos) (dRefused den) := by
  subst hbg
  refine PE.imp (pe_lamcall (t := fun E => tD X.K c E den) hg hm hk lk hcg hb Sg rfl hva (bad_gives B hge hle) TB hcode hmT hu (hr.mono hk0) L hdef hbind hbody (by decide +kernel) (by decide +kernel) (by decide +kernel)) fun σ H Q ⟨a0, S, ρ, R, w, en, q⟩ => ⟨w.tabs, fun H1 eN T1 => ?_⟩
  have w1 : Wd X.K c a0 S H H1 R := by
    refine ⟨w.a0S, w.sS, fun b o _ e n => eN b o e n, ?_, T1⟩
    obtain ⟨sc, h, f⟩ := w.row
    exact ⟨sc, eN _ _ h nt_lst, f.mono fun o u e => eN _ _ e nt_frz⟩
  refine ⟨a0, S, ρ, R, w1.here, en.mono w1.sub, ?_⟩
  unfold dRefused at q
  cases hd : den ρ R with
  | stuck => rw [hd] at q; exact q.elim
  | ok d R1 =>
    rw [hd] at q
    exact fun v H2 w2 _ => q _ _ (w1.trans w2) (.str _)
  | exc nm R1 =>
    rw [hd] at q
    exact fun dx H2 w2 e => ⟨rfl, dx, _, rfl, e, q _ _ (w1.trans w2) (.str _)⟩
end
end Ev

/-! Ev: law -/
namespace Ev
open PySem PySem.Spec PyProof.Rows L2 LamX
theorem ok_frz {P : Program} {w : World} {H : Hp} {h : Heap} {a : Addr} {xs : List V} {u : HO} (ha : H a = some (.lst xs)) : ∀ {o : HO} {b : Addr}, ObjOk P w H h b o → ObjOk P w (upd H a u) h b o
  | .lst _, _, x => x
  | .tup _, _, x => x
  | .dK _, _, x => x
  | .dT kvs, b, x => by
    obtain ⟨h1, h2, ys, h3, h4⟩ := x
    refine ⟨h1, h2, ys, Paired.mono (fun p q ⟨e1, e2, e3⟩ => ⟨e1, ?_, e3⟩) h3, h4⟩
    rw [upd_ne fun z => ?_]
    · exact e2
    · rw [z, ha] at e2; cases e2
  | .set _ _, _, x => x
  | .ins C dx fs, b, x => by
    obtain ⟨h1, h2⟩ := x
    refine ⟨?_, h2⟩
    rw [upd_ne fun z => ?_]
    · exact h1
    · rw [z, ha] at h1; cases h1
  | .own _, _, x => x
  | .xd _, _, x => x
  | .rng _ _, _, x => x
  | .frz o v, b, x => ⟨x.1, ok_frz ha x.2⟩
  | .tbl _, _, x => x
  | .met _ _, _, x => x
  | .ext _, _, x => x
/-- what is handed in may be taken to stand still -/
theorem fn_frz {P : Program} {w : World} {K : PySem.W.Frag} {mg : Str → Option Value} {base : Heap} {k : Nat} {f : Addr} {fd : FuncData} {ps : List Str} {sp : Sp} (F : FnOk P w K mg base (L2.CX P w) k f fd ps sp) :
    FnOk P w K mg base (L2.CX P w) k f fd ps fun vs H Q E => sp vs H Q E ∨ ∃ a xs, H a = some (.lst xs) ∧ ∀ o, sp vs (upd H a (.frz o (.lst xs))) Q fun _ _ _ => False := by
  refine ⟨fun vs H Q E h => ?_, fun A outer s H args us vs Q E hr he hb hv h => ?_⟩
  · rcases h with h | ⟨a, xs, _, h⟩
    · exact F.len _ _ _ _ h
    · exact F.len _ _ _ _ (h { cls := .none, data := .fields #[] })
  · rcases h with h | ⟨a, xs, ha, h⟩
    · exact F.run A outer s H args us vs Q E hr he hb hv h
    · obtain ⟨o, ho⟩ : ∃ o, s.heap.get? a = some o := by
        obtain ⟨_, its, n, _, e⟩ := he.hok a _ ha
        exact ⟨_, e⟩
      have nn : ∀ b, H b = none → (upd H a (.frz o (.lst xs))) b = none := fun b e => by rw [upd_ne (fun z => by rw [z, ha] at e; cases e)]; exact e
      have oo : ∀ b, b ≠ a → (upd H a (.frz o (.lst xs))) b = H b := fun b e => upd_ne e
      have he' : Env0 P w K mg base A outer s (upd H a (.frz o (.lst xs))) := by
        refine ⟨he.frames, he.mod, fun b u e => ⟨(he.bs b u e).1, nn b (he.bs b u e).2⟩, he.bsz, he.funs, fun b hb => nn b (he.frf b hb), fun b u e => ?_, he.bare⟩
        by_cases hb : b = a
        · subst hb
          rw [upd_same] at e
          cases e
          exact ⟨ho, ok_frz ha (he.hok b _ ha)⟩
        · rw [oo b hb] at e
          exact ok_frz ha (he.hok b u e)
      refine codeAny_mono (F.run A outer s _ args us vs Q _ hr he' hb hv (h o)) fun r s' hq => ?_
      cases r with
      | error e =>
        obtain ⟨_, _, _, _, _, _, _, _, _, _, _, _, z⟩ := hq
        exact z.elim
      | ok fl =>
        cases fl with
        | ret u =>
          obtain ⟨v, H', os, ag, un, hok, rv, q⟩ := hq
          exact ⟨v, H', os, ag, ⟨fun b x e n => un.keep b x e (nn b n), fun b x e n => un.slot b x e (nn b n), fun b x e n => un.free b x e (nn b n), un.there, fun b ys e => un.tups b ys (by rw [oo b (fun z => by rw [z, ha] at e; cases e)]; exact e), fun b x y e => un.frzs b x y (by rw [oo b (fun z => by rw [z, ha] at e; cases e)]; exact e), fun b ys e => un.tbls b ys (by rw [oo b (fun z => by rw [z, ha] at e; cases e)]; exact e)⟩, hok, rv, q⟩
        | next => exact hq
        | brk => exact hq
        | cont => exact hq
/-- law's promise -/
def spLaw (K : PySem.W.Frag) (c : Cfg) : Sp := fun vs H Q _ => ∃ (a : Addr) (ns : List Int), vs = [.ref a] ∧ SqL K H a (ns.map V.int) ∧ ns.length ≤ 63 ∧ (∀ z ∈ ns, Builtin.Int.intBits z ≤ 1048576) ∧ (∀ p ∈ c.T, H p.1 = some (.tbl #[])) ∧ ∀ H', Q (.bl true) H'
section
variable {P : Program} {w : World} {K : PySem.W.Frag} {mg : Str → Option Value} {base : Heap} {c : Cfg}
theorem fn_law {st : Stmt} {f : Addr} {fd : FuncData} {cdv : Value} {k : Nat} {seed : Int} {OL O' : List Nat} {rest : List Stmt} {den : DenS} {j1 j2 j3 : Nat} {p1 p2 p3 p4 p5 p6 p7 : Pos} (F : FunC K "law" st f fd cdv) (S : FnScope ["script", "row", "turn"] ["script"] (defScope st))
    (hb : defBody st = .Assign [.Name "row" p1] (.List [.Name "script" p2, .Constant (.int 0) j1 p3, .Constant (.int seed) j2 p4, .Constant (.int 0) j3 p5] p6) p7 :: rest) (hv : Vis (defScope st) "script" := by exact Or.inl rfl) (hv2 : L2.Loc (defScope st) "row" := by exact Or.inl rfl)
    (hbody : ∀ (A : Around) (outer : List PySem.Env) (s : Shared) (H : Hp) (E : XK), Room k (A.deeper (envOfC "law" (defScope st) s.heap.objs.size f cdv)) →
      DSs (cxOf (L2.CX P w) P w K mg base ["script", "row", "turn"] "law" (defScope st) f cdv A outer s H E) c E OL [] O' rest den)
    (hden : ∀ ns : List Int, ns.length ≤ 63 → (∀ z ∈ ns, Builtin.Int.intBits z ≤ 1048576) → ∃ R', den [none, some rowD, none] ⟨ns, 0, seed, 0⟩ = .ok (.rt (.bool true)) R') :
    FnOk P w K mg base (L2.CX P w) (k + 1) f fd ["script"] (spLaw K c) := by
  obtain ⟨⟨oc, od, kV, doc, pm, an, ct, osl, rfl, lk, hcd⟩, kp⟩ := F
  have G : FnOk P w K mg base (L2.CX P w) (k + 1) f (PySem.W.fnOf "law" "law" (defArgs st) (defBody st) (defScope st) .none kV doc pm an cdv ct) ["script"] fun vs H Q _ => ∃ (a : Addr) (ns : List Int), vs = [.ref a] ∧ SqF K H a (ns.map V.int) ∧ ns.length ≤ 63 ∧ (∀ z ∈ ns, Builtin.Int.intBits z ≤ 1048576) ∧ (∀ p ∈ c.T, H p.1 = some (.tbl #[])) ∧ ∀ H', Q (.bl true) H' := by
    refine fn_of lk hcd S (fun vs H Q E ⟨a, ns, h, _⟩ => by rw [h]; rfl) fun A outer s H vs Q E hr ⟨a, ns, h, hS, hl, hz, hT, q⟩ => ?_
    subst h
    rw [hb]
    refine ⟨_, pss_cons (ps_set (i := 1) S.nd rfl hv2 (by exact (pe_lst (by exact (pa_cons (pe_var (i := 0) (x := "script") rfl hv (by decide +kernel) (by decide +kernel)) (pa_cons pe_int (pa_cons pe_int (pa_cons pe_int pa_nil)))))))) (hbody A outer s H E hr), ?_⟩
    refine ⟨_, rfl, by show 4 ≤ sizeLine; rw [sizeLine_eq]; decide, fun p hp => ?_⟩
    obtain ⟨R', e⟩ := hden ns hl hz
    refine ⟨p, [p], _, hide (upd H p (.lst [.ref a, .int 0, .int seed, .int 0])) [p], [none, some rowD, none], ⟨ns, 0, seed, 0⟩, ⟨[], ⟨⟨List.mem_cons_self, fun b hb => ?_, fun b o _ e _ => e, ⟨a, upd_same, ?_⟩, fun pq hpq => ?_⟩, List.nodup_nil, List.nodup_nil, fun p hp => by simp at hp, rfl, fun i d hi _ => ?_, Sub.refl _⟩, fun i hi => by simp at hi, fun i hi => by simp at hi⟩, ?_⟩
    · have := List.mem_singleton.mp hb
      subst this
      exact ⟨_, upd_same, nt_lst⟩
    · exact hS.mono fun o u e => by rw [upd_ne (ne_of_none e hp)]; exact e
    · refine TabS.nil ?_
      have e := hT pq hpq
      rw [upd_ne (ne_of_none e hp)]
      exact e
    · match i, hi with
      | 0, hi => cases hi
      | 1, hi =>
        cases hi
        exact ⟨_, rfl, .row⟩
      | 2, hi => cases hi
      | _ + 3, hi => cases hi
    · rw [e]
      intro v H' _ r
      have := r.bool_inv
      subst this
      exact q _
  refine (fn_frz G).imp fun vs H Q E ⟨a, ns, h, hS, hl, hz, hT, q⟩ => ?_
  rcases hS with (hS | ⟨o, hS⟩) | hS
  · refine .inr ⟨a, _, hS, fun o => ⟨a, ns, h, .inl ⟨o, upd_same⟩, hl, hz, fun pq hpq => ?_, q⟩⟩
    have e := hT pq hpq
    rw [upd_ne fun z => by rw [z, hS] at e; cases e]
    exact e
  · exact .inl ⟨a, ns, h, .inl ⟨o, hS⟩, hl, hz, hT, q⟩
  · exact .inl ⟨a, ns, h, .inr hS, hl, hz, hT, q⟩
end
end Ev

/-! Ev: what the printed derivations lean on -/
namespace Ev
open PySem PySem.Spec PyProof.Rows L2 LamX
structure Blts (mg : Str → Option Value) : Prop where
  len : mg "len" = none
  int : mg "int" = none
  abs : mg "abs" = none
  max : mg "max" = none
  min : mg "min" = none
  sum : mg "sum" = none
  all : mg "all" = none
  any : mg "any" = none
  tuple : mg "tuple" = none
  list : mg "list" = none
  isinstance : mg "isinstance" = none
  bool : mg "bool" = none
  range : mg "range" = none
  sorted : mg "sorted" = none
  zip : mg "zip" = none
  enumerate : mg "enumerate" = none
  str : mg "str" = none
  set : mg "set" = none
  dict : mg "dict" = none
end Ev
namespace L2
open PySem PySem.Spec PyProof.Rows
theorem Room.u65 {k : Nat} {A : Around} (r : Room k A) : A.units + 65 < cLine := by have := r.un; omega
theorem Room.u1 {k : Nat} {A : Around} (r : Room k A) : A.units + 1 < cLine := by have := r.un; omega
end L2
namespace Ev
open PySem PySem.Spec PyProof.Rows L2 LamX
theorem wipe_get : ∀ (ks : List Nat) {ρ : Env} {i : Nat} {d : PyData}, (wipeE ρ ks)[i]? = some (some d) → ρ[i]? = some (some d) ∧ i ∉ ks
  | [], _, _, _, h => ⟨h, by simp⟩
  | v :: vs, ρ, i, d, h => by
    rw [wipeE] at h
    by_cases e : v = i
    · subst e
      by_cases hv : v < (wipeE ρ vs).length
      · rw [List.getElem?_set_self hv] at h; cases h
      · rw [List.getElem?_eq_none (by rw [List.length_set]; omega)] at h; cases h
    · rw [List.getElem?_set_ne e] at h
      obtain ⟨h1, h2⟩ := wipe_get vs h
      exact ⟨h1, by simp [h2, Ne.symm e]⟩
theorem wipe_off : ∀ (ks : List Nat) {ρ : Env} {i : Nat}, i ∉ ks → (wipeE ρ ks)[i]? = ρ[i]?
  | [], _, _, _ => rfl
  | v :: vs, ρ, i, h => by
    rw [wipeE, List.getElem?_set_ne (fun z => h (by rw [z]; exact List.mem_cons_self))]
    exact wipe_off vs fun z => h (List.mem_cons_of_mem _ z)
/-- a target of a part of the clauses: the others' names are empty ahead of it -/
def gMore (us : List Nat) (t : Tgt) : Tgt := fun d ρ => t d (wipeE ρ us)
theorem tok_more {vs us : List Nat} {t : Tgt} (h : TgtOk vs t) (k : ∀ i ∈ vs, i ∈ us) : TgtOk us (gMore us t) := fun d ρ ρ' e => by
  obtain ⟨h1, h2⟩ := h d _ ρ' e
  exact ⟨by rw [h1, wipeE_len], fun i hi => by rw [h2 i fun z => hi (k i z), wipe_off us hi]⟩
theorem DG.more {X : Cx} {tg : Expr} {vs us : List Nat} {t : Tgt} (h : DG X tg vs t) (k : ∀ i ∈ vs, i ∈ us) : DG X tg us (gMore us t) := ⟨PG.imp h.pg fun v σ H Q ⟨a0, S, ρ, d, ρ', e1, e2, e3, q⟩ => ⟨a0, S, wipeE ρ us, d, ρ', by rw [wipeE_len]; exact e1, e2, e3, fun σ' l k1 k2 => by
  refine q σ' l (fun i hi => k1 i fun z => hi (k i z)) fun i hi d' e => ?_
  by_cases hv : i ∈ vs
  · exact k2 i hv d' e
  · rw [(h.ok d _ ρ' e3).2 i hv] at e
    exact absurd hi (wipe_get us e).2⟩, tok_more h.ok k⟩
/-- the text of _law_refused, and where it stands -/
structure RefK (K : PySem.W.Frag) (mg : Str → Option Value) (st : Stmt) : Prop where
  ex : ∃ (g : Addr) (dV kV doc pm cdv ct oc : Value) (an od : Option Addr) (osl : Array (Option Value)), mg "_law_refused" = some (.ref g) ∧ PySem.W.keepIn K (.ref g) = true ∧
    K.lookup g = some ⟨oc, od, .func (PySem.W.fnOf "_law_refused" "_law_refused" (defArgs st) (defBody st) (defScope st) dV kV doc pm an cdv ct), osl⟩ ∧ PySem.W.codeIn K cdv "_law_refused" = true ∧
    L2.Binds K (PySem.W.fnOf "_law_refused" "_law_refused" (defArgs st) (defBody st) (defScope st) dV kV doc pm an cdv ct) ["call"] []
  sc : FnScope ["call", "e"] ["call"] (defScope st)
  bd : ∃ (j : Nat) (p1 p2 p3 p4 p5 p6 p7 p8 p9 p10 p11 : Pos), defBody st = [.Try [.Expr (.Call (.Name "call" p1) [] [] p2) p3] [.ExceptHandler (some (.Name "BadArgument" p4)) (some "e") [.Return (some (.Attribute (.Name "e" p5) "name" p6)) p7] p8] [] [] p9, .Return (some (.Constant (.str "") j p10)) p11]
  ge : (defScope st).names.lookup ("BadArgument" : Str) = some .globalImplicit
  le : (defScope st).names.lookup ("e" : Str) = some .local
  va : Vis (defScope st) "call"
theorem de_ref {X : Cx} {c : Cfg} {E : XK} {st : Stmt} {cc P : Addr} {k0 : Nat} (k : Nat) {params : Arguments} {body : Expr} {scope : Scope} {p lpos pos : Pos} {den : Den} (B : Bad X.prog X.w X.K X.mg X.base c.CB) (rf : RefK X.K X.mg st) (TB : TabB X.base X.mg cc P) (hcode : X.env.code = .ref cc) (hT : c.T = [(P, X.env.qual ++ "<lambda>")])
    (hr : Room k0 X.A) (hk0 : k + 2 ≤ k0) (hbody : ∀ (A : Around) (outer : List PySem.Env) (s : Shared) (H : Hp) (E : XK) (f c' : Addr), Room k (A.deeper (lamEnv X scope s.heap.objs.size f c')) → DE (lamCx X A outer s H E scope f c') c E body den)
    (L : LamS X.env.scope scope := by exact lamS_by rfl) (hdef : defaultsOf params X.env = ([], []) := by rfl)
    (hbind : ∀ (q : Str) (cl : List (Str × Addr)) (pm cv ctv : Value), bindArgs (PySem.W.kla_fn "<lambda>" q params body scope cl pm cv ctv) ⟨[], []⟩ = pure [] := by intros; rfl) (hg : Gl X "_law_refused" := by rfl) :
    DE X c E (.Call (.Name "_law_refused" p) [.Lambda params body scope lpos] [] pos) (dRefused den) := by
  obtain ⟨g, dV, kV, doc, pm, cdv, ct, oc, an, od, osl, hm, hk, lk, hcg, hb⟩ := rf.ex
  obtain ⟨j, p1, p2, p3, p4, p5, p6, p7, p8, p9, p10, p11, hbd⟩ := rf.bd
  exact de_refused B hm hk lk hcg hb rf.sc hbd rf.ge rf.le rf.va TB hcode (by rw [hT]; exact List.mem_cons_self) (fun q hq _ => by rw [hT] at hq; rw [List.mem_singleton.mp hq]) hr hk0 hbody L hdef hbind hg
theorem lam_pass {X : Cx} {A : Around} {outer : List PySem.Env} {s : Shared} {H : Hp} {E : XK} {scope : Scope} {f c' : Addr} : Passes (L2.CX (lamCx X A outer s H E scope f c').prog (lamCx X A outer s H E scope f c').w) (lamCx X A outer s H E scope f c') E := passes_call (takes_of rfl rfl rfl rfl) fun _ _ _ _ h => h
end Ev

/-! Ev: a dict that is locked while its keys are walked -/
namespace Ev
open PySem PySem.Spec PyProof.Rows L2 LamX
theorem hns0 {i k : Nat} {n : Int} : ∀ ρ R x R', dBin subD (dRow i k) (dC (.int n)) ρ R = .ok x R' → R' = R := by
  intro ρ R x R' h
  unfold dBin dRow dC at h
  cases h1 : rowAt ρ i with
  | none => simp [h1, ofO] at h
  | some r =>
    cases h2 : R.get k with
    | none => simp [h1, h2, ofO] at h
    | some z =>
      simp only [h1, h2, ofO, bind_ok] at h
      split at h
      · cases h; rfl
      · cases h
/-- what data lean on stands, though a dict be locked or let go -/
structure SubR (H H' : Hp) : Prop where
  l : ∀ b xs, H b = some (.lst xs) → H' b = some (.lst xs)
  t : ∀ b xs, H b = some (.tup xs) → H' b = some (.tup xs)
  k : ∀ b xs, Rd H b (.dK xs) → Rd H' b (.dK xs)
  kt : ∀ b xs, Rd H b (.dT xs) → Rd H' b (.dT xs)
section
variable {K : PySem.W.Frag} {a0 : Addr} {H H' : Hp}
mutual
theorem Rep.rd (s : SubR H H') {v : V} {d : PyData} (r : Rep K a0 H v d) : Rep K a0 H' v d := by
  cases r with
  | non => exact .non
  | bl b => exact .bl b
  | int i => exact .int i
  | str x => exact .str x
  | lst h r => exact .lst (s.l _ _ h) (RepA.rd s r)
  | tup h r => exact .tup (s.t _ _ h) (RepA.rd s r)
  | dK h r => exact .dK (s.k _ _ h) (RepK.rd s r)
  | dT h r => exact .dT (s.kt _ _ h) (RepT.rd s r)
  | row => exact .row
theorem RepA.rd (s : SubR H H') {v : List V} {d : List PyData} (r : RepA K a0 H v d) : RepA K a0 H' v d := by
  cases r with
  | nil => exact .nil
  | cons h r => exact .cons (Rep.rd s h) (RepA.rd s r)
theorem RepK.rd (s : SubR H H') {v : List (Key × V)} {d : List (PyData × PyData)} (r : RepK K a0 H v d) : RepK K a0 H' v d := by
  cases r with
  | nil => exact .nil
  | cons h r => exact .cons (Rep.rd s h) (RepK.rd s r)
theorem RepT.rd (s : SubR H H') {v : List (List Key × V)} {d : List (PyData × PyData)} (r : RepT K a0 H v d) : RepT K a0 H' v d := by
  cases r with
  | nil => exact .nil
  | cons h r => exact .cons (Rep.rd s h) (RepT.rd s r)
end
end
/-- a dict -/
def Dct (u : HO) : Prop := (∃ kvs, u = .dK kvs) ∨ ∃ kvs, u = .dT kvs
theorem Dct.nl {u : HO} (h : Dct u) : ∀ xs, u ≠ .lst xs := fun xs z => by rcases h with ⟨_, h⟩ | ⟨_, h⟩ <;> (rw [h] at z; cases z)
theorem Dct.nu {u : HO} (h : Dct u) : ∀ xs, u ≠ .tup xs := fun xs z => by rcases h with ⟨_, h⟩ | ⟨_, h⟩ <;> (rw [h] at z; cases z)
theorem Dct.nf {u : HO} (h : Dct u) : ∀ o v, u ≠ .frz o v := fun o v z => by rcases h with ⟨_, h⟩ | ⟨_, h⟩ <;> (rw [h] at z; cases z)
theorem Dct.nt {u : HO} (h : Dct u) : ∀ ps, u ≠ .tbl ps := fun o z => by rcases h with ⟨_, h⟩ | ⟨_, h⟩ <;> (rw [h] at z; cases z)
theorem Dct.nx {u : HO} (h : Dct u) : ∀ φ, u ≠ .ext φ := fun o z => by rcases h with ⟨_, h⟩ | ⟨_, h⟩ <;> (rw [h] at z; cases z)
theorem Dct.mut {u : HO} (h : Dct u) : Mut (some u) := by rcases h with ⟨_, h⟩ | ⟨_, h⟩ <;> (rw [h]; trivial)
theorem subR_upd {H : Hp} {d : Addr} {o o' u : HO} (hu : Dct u) (e : H d = some o) (h : (o = u ∧ ∃ ob, o' = .frz ob u) ∨ ((∃ ob, o = .frz ob u) ∧ o' = u)) (S : List Addr) : SubR (hide H S) (hide (upd H d o') S) := by
  have nd : ∀ b x, b ∉ S → H b = some x → x ≠ o → (hide (upd H d o') S) b = some x := fun b x nb hb ne => by
    rw [hide_out nb, upd_ne (fun z => ne (by rw [z, e] at hb; exact (Option.some.inj hb).symm))]
    exact hb
  have rd : ∀ b x, Dct x → Rd (hide H S) b x → Rd (hide (upd H d o') S) b x := fun b x hx hb => by
    rcases hb with hb | ⟨ob, hb⟩
    · obtain ⟨nb, hb⟩ := of_hide hb
      by_cases z : b = d
      · have t := hb
        rw [z, e] at t
        have t := Option.some.inj t
        rcases h with ⟨h, ob, h'⟩ | ⟨⟨ob, h⟩, h'⟩
        · exact .inr ⟨ob, by rw [hide_out nb, z, upd_same, h', ← h, t]⟩
        · exact absurd (t.symm.trans h) (hx.nf _ _)
      · exact .inl (by rw [hide_out nb, upd_ne z]; exact hb)
    · obtain ⟨nb, hb⟩ := of_hide hb
      by_cases z : b = d
      · have t := hb
        rw [z, e] at t
        have t := Option.some.inj t
        rcases h with ⟨h, ob', h'⟩ | ⟨⟨ob', h⟩, h'⟩
        · exact absurd (h.symm.trans t) (hu.nf _ _)
        · have t2 := t.symm.trans h
          cases t2
          exact .inl (by rw [hide_out nb, z, upd_same, h'])
      · exact .inr ⟨ob, by rw [hide_out nb, upd_ne z]; exact hb⟩
  have no : ∀ x : HO, (∀ ob, x ≠ .frz ob u) → x ≠ u → x ≠ o := fun x n1 n2 z => by
    rcases h with ⟨h, _⟩ | ⟨⟨ob, h⟩, _⟩
    · exact n2 (z.trans h)
    · exact n1 ob (z.trans h)
  refine ⟨fun b xs hb => ?_, fun b xs hb => ?_, fun b xs hb => rd b _ (.inl ⟨xs, rfl⟩) hb, fun b xs hb => rd b _ (.inr ⟨xs, rfl⟩) hb⟩
  · obtain ⟨nb, hb⟩ := of_hide hb
    exact nd b _ nb hb (no _ (fun _ z => by cases z) fun z => hu.nl xs z.symm)
  · obtain ⟨nb, hb⟩ := of_hide hb
    exact nd b _ nb hb (no _ (fun _ z => by cases z) fun z => hu.nu xs z.symm)
theorem tabs_upd {T : List (Addr × Str)} {H : Hp} {d : Addr} {o o' : HO} (e : H d = some o) (h1 : ∀ ps, o ≠ .tbl ps) (h2 : ∀ φ, o ≠ .ext φ) (t : Tabs T H) : Tabs T (upd H d o') := fun p hp => by
  obtain ⟨ps, a, b, c⟩ := t p hp
  refine ⟨ps, by rw [upd_ne (fun z => by rw [z, e] at a; exact h1 ps (Option.some.inj a))]; exact a, b, fun pos cv hc => ?_⟩
  obtain ⟨cc, e1, e2⟩ := c pos cv hc
  exact ⟨cc, e1, by rw [upd_ne (fun z => by rw [z, e] at e2; exact h2 _ (Option.some.inj e2))]; exact e2⟩
def noX {α : Type} (r : Res α) : Res α := match r with
  | .exc _ _ => .stuck
  | .ok a R => .ok a R
  | .stuck => .stuck
theorem Ends.noX {α : Type} {r : Res α} {ok : α → Row → Prop} {ex ex' : Str → Row → Prop} (h : Ends (noX r) ok ex) : Ends r ok ex' := by
  cases r with
  | ok a R => exact h
  | exc n R => exact h.elim
  | stuck => exact h
def keysD : PyData → Option (List PyData)
  | .dict ps => if ps.all (fun p => (toKey p.1).isSome) then some (ps.map (·.1)) else none
  | _ => none
/-- for t in x: body, x a dict (of keys that are ints or texts) in slot i -/
def sForK (ks : List Nat) (i : Nat) (t : Tgt) (body : DenS) : DenS := fun ρ R => if i ∈ ks then .stuck else (ofO ((valAt ρ i).bind keysD) R).bind fun ds R1 => noX (forM (turnF t body) ds ρ R1)
section
variable {K : PySem.W.Frag} {c : Cfg} {a0 : Addr} {S : List Addr} {H0 Vi H : Hp} {A : List (Nat × Addr)} {ρ : Env} {R : Row} {σ : L2.St} {O : List Nat}
theorem repK_get : ∀ {kvs : List (Key × V)} {ps : List (PyData × PyData)} {i : Nat} {k : Key} {v : V}, RepK K a0 H kvs ps → kvs[i]? = some (k, v) → (ps.map (·.1))[i]? = some (keyD k)
  | _, _, _, _, _, .nil, e => by simp at e
  | _, _, 0, _, _, .cons _ _, e => by
    simp at e
    obtain ⟨rfl, rfl⟩ := e
    rfl
  | _, _, i + 1, _, _, .cons _ r, e => by
    have := repK_get (i := i) r (by simpa using e)
    simpa using this
theorem repK_len : ∀ {kvs : List (Key × V)} {ps : List (PyData × PyData)}, RepK K a0 H kvs ps → kvs.length = ps.length
  | _, _, .nil => rfl
  | _, _, .cons _ r => by rw [List.length_cons, List.length_cons, repK_len r]
theorem rep_key {H : Hp} (k : Key) : Rep K a0 H (kV k) (keyD k) := by
  cases k with
  | inl i => exact .int i
  | inr x => exact .str x
theorem walks_keys {d : Addr} {o : Obj} {kvs : List (Key × V)} {ps : List (PyData × PyData)} (h : hide H S d = some (.frz o (.dK kvs))) (r : RepK K a0 (hide H S) kvs ps) : Walks K a0 S (Itk d o kvs) H (ps.map (·.1)) := by
  intro S'
  have up : ∀ H2, (Sub (hide H S) (hide H2 S') ∧ ∀ b ∈ S', H2 b ≠ none) → H2 d = some (.frz o (.dK kvs)) := fun H2 s => (of_hide (s.1 _ _ h nt_frz)).2
  have hl : (ps.map (·.1)).length = kvs.length := by rw [List.length_map, repK_len r]
  refine ⟨fun i H2 hi s => ⟨up H2 s, by omega⟩, fun H2 s => ⟨up H2 s, by omega⟩, fun i H2 x H' hi s y => ?_⟩
  obtain ⟨e1, k, v, e2, e3⟩ := y
  subst e1 e3
  exact ⟨.inl rfl, keyD k, repK_get r e2, rep_key k⟩
theorem OwnAt.rd {Hh Hv H H' : Hp} {a : Addr} {x : PyData} (h : OwnAt K a0 Hh H a x) (s : SubR Hh Hv) (e : H' a = H a) : OwnAt K a0 Hv H' a x := by
  cases x with
  | list ds => obtain ⟨xs, h, r⟩ := h; exact ⟨xs, by rw [e]; exact h, r.rd s⟩
  | dict ps =>
    rcases h with ⟨xs, h, r⟩ | ⟨xs, h, r⟩
    · exact .inl ⟨xs, by rw [e]; exact h, r.rd s⟩
    · exact .inr ⟨xs, by rw [e]; exact h, r.rd s⟩
  | _ => exact h.elim
theorem wd_lock {d : Addr} {od : Obj} {u : HO} (w : Wd K c a0 S H0 H R) (hu : Dct u) (hd : H d = some u) (nS : d ∉ S) : Wd K c a0 S (upd H0 d (.frz od u)) (upd H d (.frz od u)) R := by
  refine ⟨w.a0S, fun b hb => ?_, fun b o n e nt => ?_, ?_, tabs_upd hd hu.nt hu.nx w.tabs⟩
  · obtain ⟨o, e, n⟩ := w.sS b hb
    exact ⟨o, by rw [upd_ne (fun (z : b = d) => nS (by rw [← z]; exact hb))]; exact e, n⟩
  · by_cases z : b = d
    · rw [z, upd_same] at e ⊢; exact e
    · rw [upd_ne z] at e ⊢; exact w.gr b o n e nt
  · obtain ⟨sc, h, f⟩ := w.row
    have na : a0 ≠ d := fun z => nS (z ▸ w.a0S)
    refine ⟨sc, by rw [upd_ne na]; exact h, f.mono fun o u e => ?_⟩
    rw [upd_ne (fun z => by rw [z, hd] at e; exact hu.nf _ _ (Option.some.inj e))]
    exact e
theorem wd_unlock {d : Addr} {od : Obj} {u : HO} {H1 : Hp} {R1 : Row} (w : Wd K c a0 S H0 H R) (hu : Dct u) (hd : H d = some u) (nS : d ∉ S) (w1 : Wd K c a0 S (upd H0 d (.frz od u)) H1 R1) : H1 d = some (.frz od u) ∧ Wd K c a0 S H0 (upd H1 d u) R1 := by
  have na : d ≠ a0 := fun z => nS (z ▸ w.a0S)
  have h1 : H1 d = some (.frz od u) := w1.gr d _ na upd_same nt_frz
  refine ⟨h1, w.a0S, w.sS, fun b o n e nt => ?_, ?_, tabs_upd h1 (fun _ z => by cases z) (fun _ z => by cases z) w1.tabs⟩
  · by_cases z : b = d
    · have := w.gr b o n e nt
      rw [z, hd] at this
      rw [z, upd_same]; exact this
    · rw [upd_ne z]
      exact w1.gr b o n (by rw [upd_ne z]; exact e) nt
  · obtain ⟨sc, h, f⟩ := w1.row
    refine ⟨sc, by rw [upd_ne (Ne.symm na)]; exact h, ?_⟩
    rcases f with ⟨o, f⟩ | f
    · exact .inl ⟨o, by rw [upd_ne (fun z => by rw [z, h1] at f; cases f; exact hu.nl _ rfl)]; exact f⟩
    · exact .inr f
theorem sta_lock {d : Addr} {od : Obj} {u : HO} (sa : StA K c a0 S H0 Vi A ρ R σ H) (hu : Dct u) (hd : hide H (A.map (·.2) ++ S) d = some u) :
    StA K c a0 S (upd H0 d (.frz od u)) (hide (upd H d (.frz od u)) (A.map (·.2) ++ S)) A ρ R σ (upd H d (.frz od u)) := by
  obtain ⟨nd, hd⟩ := of_hide hd
  have nS : d ∉ S := fun z => nd (List.mem_append_right _ z)
  have s : SubR (hide H (A.map (·.2) ++ S)) (hide (upd H d (.frz od u)) (A.map (·.2) ++ S)) := subR_upd hu hd (.inl ⟨rfl, od, rfl⟩) _
  have nA : ∀ p ∈ A, p.2 ≠ d := fun p hp z => nd (List.mem_append_left _ (List.mem_map.mpr ⟨p, hp, z⟩))
  refine ⟨wd_lock sa.w hu hd nS, sa.nd1, sa.nd2, fun p hp => ?_, sa.len, fun i x e n => ?_, Sub.refl _⟩
  · obtain ⟨f, e1, x, e2, ho⟩ := sa.own p hp
    exact ⟨fun o e => f o (by rw [upd_ne (nA p hp)] at e; exact e), e1, x, e2, ho.rd s (upd_ne (nA p hp))⟩
  · obtain ⟨v, e1, r⟩ := sa.rest i x e n
    exact ⟨v, e1, r.rd s⟩
theorem sta_unlock {d : Addr} {od : Obj} {u : HO} {A1 : List (Nat × Addr)} {H1 : Hp} {ρ1 : Env} {R1 : Row} {σ1 : L2.St} (sa : StA K c a0 S H0 Vi A ρ R σ H) (hu : Dct u) (hd : hide H (A.map (·.2) ++ S) d = some u)
    (s1 : StA K c a0 S (upd H0 d (.frz od u)) (hide (upd H d (.frz od u)) (A.map (·.2) ++ S)) A1 ρ1 R1 σ1 H1) : H1 d = some (.frz od u) ∧ StA K c a0 S H0 Vi A1 ρ1 R1 σ1 (upd H1 d u) := by
  obtain ⟨nd, hd'⟩ := of_hide hd
  have nS : d ∉ S := fun z => nd (List.mem_append_right _ z)
  obtain ⟨h1, w⟩ := wd_unlock sa.w hu hd' nS s1.w
  have s : SubR (hide H1 (A1.map (·.2) ++ S)) (hide (upd H1 d u) (A1.map (·.2) ++ S)) := subR_upd hu h1 (.inr ⟨⟨od, rfl⟩, rfl⟩) _
  have nA : ∀ p ∈ A1, p.2 ≠ d := fun p hp z => (s1.own p hp).1 _ (by rw [z]; exact upd_same) nt_frz
  refine ⟨h1, w, s1.nd1, s1.nd2, fun p hp => ?_, s1.len, fun i x e n => ?_, fun b o e nt => ?_⟩
  · obtain ⟨f, e1, x, e2, ho⟩ := s1.own p hp
    exact ⟨fun o e => f o (by rw [upd_ne (nA p hp)]; exact e), e1, x, e2, ho.rd s (upd_ne (nA p hp))⟩
  · obtain ⟨v, e1, r⟩ := s1.rest i x e n
    exact ⟨v, e1, r.rd s⟩
  · have e1 := sa.vis b o e nt
    obtain ⟨nb, e2⟩ := of_hide e1
    by_cases z : b = d
    · subst z
      rw [hd'] at e2
      rw [hide_out, upd_same]
      · exact e2
      · intro y
        rcases List.mem_append.mp y with y | y
        · obtain ⟨p, hp, e⟩ := List.mem_map.mp y
          exact nA p hp e
        · exact nS y
    · have e3 := s1.vis b o (by rw [hide_out nb, upd_ne z]; exact e2) nt
      obtain ⟨nb1, e4⟩ := of_hide e3
      rw [hide_out nb1, upd_ne z]
      exact e4
end
section
variable {X : Cx} {c : Cfg} {E : XK} {OL O : List Nat} {pos : Pos}
theorem keysD_inv {K : PySem.W.Frag} {a0 : Addr} {H : Hp} {v : V} {x : PyData} {ds : List PyData} (r : Rep K a0 H v x) (h : keysD x = some ds) : ∃ d ps, v = .ref d ∧ x = .dict ps ∧ ds = ps.map (·.1) ∧ ((∃ kvs, Rd H d (.dK kvs) ∧ RepK K a0 H kvs ps) ∨ (ps = [] ∧ Rd H d (.dT []))) := by
  cases x with
  | dict ps =>
    have h : (if ps.all (fun p => (toKey p.1).isSome) = true then some (ps.map (·.1)) else none) = some ds := h
    by_cases ha : (ps.all fun p => (toKey p.1).isSome) = true
    · rw [if_pos ha] at h
      have h := (Option.some.inj h).symm
      obtain ⟨d, e, q⟩ := r.dict_inv
      refine ⟨d, ps, e, rfl, h, ?_⟩
      rcases q with q | ⟨kvs, h1, h2⟩ | ⟨_, h2⟩
      · exact .inl q
      · cases h2 with
        | nil => exact .inr ⟨rfl, h1⟩
        | cons _ _ => simp [toKey, keyT] at ha
      · subst h2
        simp [toKey] at ha
    · rw [if_neg ha] at h; cases h
  | _ => cases h
theorem walks_keysT {K : PySem.W.Frag} {a0 : Addr} {S : List Addr} {H : Hp} {d : Addr} {o : Obj} (h : hide H S d = some (.frz o (.dT []))) : Walks K a0 S (Itkt d o []) H [] := by
  intro S'
  have up : ∀ H2, (Sub (hide H S) (hide H2 S') ∧ ∀ b ∈ S', H2 b ≠ none) → H2 d = some (.frz o (.dT [])) := fun H2 s => (of_hide (s.1 _ _ h nt_frz)).2
  exact ⟨fun i H2 hi s => absurd hi (by simp), fun H2 s => ⟨up H2 s, by simp⟩, fun i H2 x H' hi s y => absurd hi (by simp)⟩
/-- both kinds of dicts, locked -/
theorem iKeys_go {K : PySem.W.Frag} {a0 : Addr} {S : List Addr} {H : Hp} {d : Addr} {o : Obj} {ps : List (PyData × PyData)} {R : It → Hp → Prop} (h : (∃ kvs, hide H S d = some (.frz o (.dK kvs)) ∧ RepK K a0 (hide H S) kvs ps) ∨ (ps = [] ∧ hide H S d = some (.frz o (.dT []))))
    (q : ∀ J, Walks K a0 S J H (ps.map (·.1)) → R J H) : ((∃ kvs, H d = some (.frz o (.dK kvs)) ∧ R (Itk d o kvs) H) ∨ ∃ kvs, H d = some (.frz o (.dT kvs)) ∧ R (Itkt d o kvs) H) := by
  rcases h with ⟨kvs, h1, h2⟩ | ⟨e, h1⟩
  · exact .inl ⟨kvs, (of_hide h1).2, q _ (walks_keys h1 h2)⟩
  · subst e
    exact .inr ⟨[], (of_hide h1).2, q _ (walks_keysT h1)⟩
theorem ds_forK (ks : List Nat) (i : Nat) {x : Str} {p1 : Pos} {tg : Expr} {body : List Stmt} {vs : List Nat} {t : Tgt} {db : DenS} (hp : PassesOwn (model X.prog X.w) X.A X.env X.xe) (hc : X.calm = true) (tok : TgtOk vs t) (hg : DG X tg vs t) (hb : DSs X c E ks (minus ks vs) ks body db) (hk : ∀ i ∈ ks, i ∈ O := by decide)
    (hN : X.N[i]? = some x := by rfl) (hv : Vis X.env.scope x := by first | exact Or.inl rfl | exact Or.inr (Or.inl rfl) | exact Or.inr (Or.inr rfl)) (hd : (x == ("__debug__" : Str)) = false := by decide) (hcd : (x == ("__classdict__" : Str)) = false := by decide)
    (hs : ∀ y, foldedSetIterable (.Name x p1) X.env y = pure y := by intro _; rfl) : DS X c E OL O ks (.For tg (.Name x p1) body [] pos) (sForK ks i t db) := by
  have base := ps_for hp hc (pi_keys (pe_var hN hv hd hcd)) hg.pg hb hs (pos := pos)
  have both : PS X (.For tg (.Name x p1) body [] pos) (fun D σ H => tLock (tFor (iKeys (tVar i)) (tG X.K vs t) (tS X.K c E ks (minus ks vs) ks db)) D σ H ∨ tFor (iKeys (tVar i)) (tG X.K vs t) (tS X.K c E ks (minus ks vs) ks db) D σ H) :=
    ⟨fun pins s σ H D I q => q.elim ((ps_lock base).run pins s σ H D I) (base.run pins s σ H D I)⟩
  refine PS.imp both fun D σ H ⟨a0, S, H0, Vi, ρ, R, st, p⟩ => ?_
  obtain ⟨A, sa, h1, h2⟩ := st.drop hk
  unfold sForK at p
  by_cases hi : i ∈ ks
  · rw [if_pos hi] at p; exact p.elim
  rw [if_neg hi] at p
  obtain ⟨ds, e1, p⟩ := Ends.ofO (Ends.bind p)
  obtain ⟨x0, e2, e3⟩ := Option.bind_eq_some_iff.mp e1
  have e4 : ρ[i]? = some (some x0) := by
    unfold valAt at e2
    cases e5 : ρ[i]? with
    | none => rw [e5] at e2; cases e2
    | some y => rw [e5] at e2; exact congrArg some e2
  obtain ⟨v, hσ, r⟩ := sa.rest i x0 e4 fun z => hi (h2 i z)
  obtain ⟨d, ps, ev, ex, ed, hd2⟩ := keysD_inv r e3
  subst ev ex ed
  have fz : ∀ {H1 : Hp} {D1 : L2.Ends} {H01 V1 : Hp} (o : Obj), StA X.K c a0 S H01 V1 A ρ R σ H1 → ((∃ kvs, hide H1 (A.map (·.2) ++ S) d = some (.frz o (.dK kvs)) ∧ RepK X.K a0 (hide H1 (A.map (·.2) ++ S)) kvs ps) ∨ (ps = [] ∧ hide H1 (A.map (·.2) ++ S) d = some (.frz o (.dT [])))) →
      Ends (forM (turnF t db) (ps.map (·.1)) ρ R) (EndF X.K c OL ks D1 a0 S H01 V1) (Ex X.K c E a0 S H01) → tFor (iKeys (tVar i)) (tG X.K vs t) (tS X.K c E ks (minus ks vs) ks db) D1 σ H1 := by
    intro H1 D1 H01 V1 o sa1 hz q
    refine ⟨.ref d, hσ, d, o, rfl, ?_⟩
    rcases hz with ⟨kvs, z1, z2⟩ | ⟨e, z1⟩
    · exact .inl ⟨kvs, (of_hide z1).2, for_go tok sa1 h1 h2 (walks_keys z1 z2) q⟩
    · subst e
      exact .inr ⟨[], (of_hide z1).2, for_go tok sa1 h1 h2 (walks_keysT z1) q⟩
  -- locked already, or locked for the loop
  have go : ∀ u : HO, Dct u → hide H (A.map (·.2) ++ S) d = some u → (∀ od, ((∃ kvs, u = .dK kvs ∧ RepK X.K a0 (hide (upd H d (.frz od u)) (A.map (·.2) ++ S)) kvs ps) ∨ (ps = [] ∧ u = .dT []))) → tLock (tFor (iKeys (tVar i)) (tG X.K vs t) (tS X.K c E ks (minus ks vs) ks db)) D σ H := by
    intro u hu hdu hcase
    obtain ⟨nd, hdu'⟩ := of_hide hdu
    refine ⟨d, u, hdu', hu.mut, fun od => ?_⟩
    have hl : hide (upd H d (.frz od u)) (A.map (·.2) ++ S) d = some (.frz od u) := hide_upd_out nd
    refine fz od (sta_lock (od := od) sa hu hdu) ?_ (p.noX.mono (fun fl R1 q => ?_) fun _ _ z => z)
    · rcases hcase od with ⟨kvs, e, rk⟩ | ⟨e, e'⟩
      · exact .inl ⟨kvs, by rw [hl, e], rk⟩
      · exact .inr ⟨e, by rw [hl, e']⟩
    · cases fl with
      | nx ρ1 =>
        rintro σ1 H1 ⟨A1, s1, g1, g2⟩
        obtain ⟨z1, z2⟩ := sta_unlock sa hu hdu s1
        exact ⟨z1, q σ1 _ ⟨A1, z2, g1, g2⟩⟩
      | rt y =>
        intro v1 H1 w1 r1
        obtain ⟨z1, z2⟩ := wd_unlock sa.w hu hdu' (fun z => nd (List.mem_append_right _ z)) w1
        exact ⟨z1, q v1 _ z2 (r1.rd (subR_upd hu z1 (.inr ⟨⟨od, rfl⟩, rfl⟩) S))⟩
      | bk ρ1 =>
        rintro σ1 H1 ⟨A1, s1, g1, g2⟩
        obtain ⟨z1, z2⟩ := sta_unlock sa hu hdu s1
        exact ⟨z1, q σ1 _ ⟨A1, z2, g1, g2⟩⟩
      | ct ρ1 =>
        rintro σ1 H1 ⟨A1, s1, g1, g2⟩
        obtain ⟨z1, z2⟩ := sta_unlock sa hu hdu s1
        exact ⟨z1, q σ1 _ ⟨A1, z2, g1, g2⟩⟩
  rcases hd2 with ⟨kvs, hr, rk⟩ | ⟨e, hr⟩
  · rcases hr with hr | ⟨o, hr⟩
    · exact .inl (go _ (.inl ⟨kvs, rfl⟩) hr fun od => .inl ⟨kvs, rfl, rk.rd (subR_upd (.inl ⟨kvs, rfl⟩) (of_hide hr).2 (.inl ⟨rfl, od, rfl⟩) _)⟩)
    · exact .inr (fz o sa (.inl ⟨kvs, hr, rk⟩) (p.noX.mono (fun _ _ z => z) fun _ _ z => z))
  · rcases hr with hr | ⟨o, hr⟩
    · exact .inl (go _ (.inr ⟨[], rfl⟩) hr fun od => .inr ⟨e, rfl⟩)
    · exact .inr (fz o sa (.inr ⟨e, hr⟩) (p.noX.mono (fun _ _ z => z) fun _ _ z => z))
end
end Ev

/-! Ev: pairs that are walked; dict displays -/
namespace L2
open PySem PySem.Spec PyProof.Rows RZ
theorem walk_zipT {K : PySem.W.Frag} {a b : Addr} {xs ys : List V} {n : Nat} (hn : n = min xs.length ys.length) : Walk (ItzT K a b) n (fun H => SqT K H a xs ∧ SqT K H b ys) (YPair (fun i => xs[i]?) (fun i => ys[i]?)) := by
  subst hn
  refine ⟨fun i _ hi q => ?_, fun _ q => ⟨xs, ys, q.1, q.2, by omega⟩, fun i H v H' _ q y => ?_⟩
  · have h1 : i < xs.length := by omega
    have h2 : i < ys.length := by omega
    exact ⟨xs, ys, xs[i], ys[i], q.1, q.2, by simp [h1], by simp [h2]⟩
  · obtain ⟨T, x, z, h1, h2, h3, h4, h5⟩ := y
    exact ⟨T, x, z, h1, h2, h3, h4 xs q.1, h5 ys q.2⟩
end L2
namespace Ev
open PySem PySem.Spec PyProof.Rows L2 LamX RZ
def pairD (xs ys : List PyData) : List PyData := (xs.zip ys).map fun p => .tuple [p.1, p.2]
section
variable {K : PySem.W.Frag} {c : Cfg} {E : XK} {a0 : Addr} {S : List Addr} {H : Hp} {R : Row}
theorem pairD_len (xs ys : List PyData) : (pairD xs ys).length = min xs.length ys.length := by unfold pairD; simp
theorem pairD_get {xs ys : List PyData} {i : Nat} {x y : PyData} (h1 : xs[i]? = some x) (h2 : ys[i]? = some y) : (pairD xs ys)[i]? = some (.tuple [x, y]) := by
  unfold pairD
  have e : (xs.zip ys)[i]? = some (x, y) := List.getElem?_zip_eq_some.mpr ⟨h1, h2⟩
  rw [List.getElem?_map, e]
  rfl
theorem walks_pairs {J : It} {xs ys : List V} {ds es : List PyData} {G : Hp → Prop} (r1 : RepA K a0 (hide H S) xs ds) (r2 : RepA K a0 (hide H S) ys es) (w : Walk J (min xs.length ys.length) G (YPair (fun i => xs[i]?) (fun i => ys[i]?)))
    (up : ∀ S' H2, (Sub (hide H S) (hide H2 S') ∧ ∀ b ∈ S', H2 b ≠ none) → G H2) : Walks K a0 S J H (pairD ds es) := by
  intro S'
  rw [pairD_len, ← r1.length, ← r2.length]
  refine w.mono (fun H2 s => up S' H2 s) fun i H2 x H' hi s y => ?_
  obtain ⟨T, u, v, h1, h2, h3, h4, h5⟩ := y
  obtain ⟨d1, e1, q1⟩ := r1.getV h4
  obtain ⟨d2, e2, q2⟩ := r2.getV h5
  subst h1 h3
  refine ⟨.inr ⟨T, _, h2, rfl⟩, _, pairD_get e1 e2, ?_⟩
  exact pair_rep h2 (fun z => s.2 T z h2) (q1.mono s.1) (q2.mono s.1)
end
section
variable {X : Cx} {c : Cfg} {E : XK} {tg : Expr} {p pos tpos : Pos} {elts : List Expr} {kk : Nat}
def zipD : List PyData → Option (List PyData)
  | [.list xs, .list ys] => some (pairD xs ys)
  | [.tuple xs, .tuple ys] => some (pairD xs ys)
  | _ => none
def lZip (l : DenL) : DenL := fun ρ R => (l ρ R).bind fun ds R1 => ofO (zipD ds) R1
theorem di_zip {e e2 : Expr} {l : DenL} (ha : DEs X c E [e, e2] l) (hm : X.mg "zip" = none) (hg : Gl X "zip" := by rfl) (hs : starEach [e, e2] X.env = (false, eval e X.env) :: starEach [e2] X.env := by rfl) (hpl : (backTo pos (starEach [e2] X.env)).any (·.1) = false := by rfl) :
    DI X c E (.Tuple elts kk tpos) (.Call (.Name "zip" p) [e, e2] [] pos) (lZip l) := by
  refine PI.imp (pi_zipA hg hm ha hs hpl) fun σ H Q ⟨a0, S, ρ, R, w, en, p⟩ => tDL_of w en (ends_next p fun xs R1 p vs H1 w1 r1 => ?_)
  obtain ⟨ds, e, q⟩ := Ends.ofO p
  unfold zipD at e
  split at e
  · cases e
    obtain ⟨v, u, rfl, r8, r9⟩ := repA_two r1
    obtain ⟨a, as, rfl, h1, rA⟩ := r8.list_inv
    obtain ⟨b, bs, rfl, h2, rB⟩ := r9.list_inv
    refine ⟨a, b, as, bs, rfl, .inl ⟨.inl (.inl (of_hide h1).2), .inl (.inl (of_hide h2).2), q _ _ w1 (walks_pairs rA rB (walk_zip rfl) fun S' H2 s => ⟨.inl (.inl (of_hide (s.1 _ _ h1 nt_lst)).2), .inl (.inl (of_hide (s.1 _ _ h2 nt_lst)).2)⟩)⟩⟩
  · cases e
    obtain ⟨v, u, rfl, r8, r9⟩ := repA_two r1
    obtain ⟨a, as, rfl, h1, rA⟩ := r8.tup_inv
    obtain ⟨b, bs, rfl, h2, rB⟩ := r9.tup_inv
    refine ⟨a, b, as, bs, rfl, .inr ⟨.inl (.inl (of_hide h1).2), .inl (.inl (of_hide h2).2), q _ _ w1 (walks_pairs rA rB (walk_zipT rfl) fun S' H2 s => ⟨.inl (.inl (of_hide (s.1 _ _ h1 nt_tup)).2), .inl (.inl (of_hide (s.1 _ _ h2 nt_tup)).2)⟩)⟩⟩
  · cases e
/-- {k: v}, the key an int or a text -/
def dDisp1 (dk dv : Den) : Den := fun ρ R => (dk ρ R).bind fun k R1 => (dv ρ R1).bind fun v R2 => if (toKey k).isSome then .ok (.dict [(k, v)]) R2 else .stuck
theorem df_disp1 {k v : Expr} {dk dv : Den} (hk : DE X c E k dk) (hv : DE X c E v dv) : DF X c E (.Dict [some k] [v] pos) (dDisp1 dk dv) := by
  refine PE.imp (pe_disp (pps_cons hk hv pps_nil) rfl rfl (by simp) (show 1 ≤ 15 by decide)) fun σ H Q ⟨a0, S, ρ, R, w, en, q⟩ p hp => ?_
  have w0 : Wd X.K c a0 S H (upd H p (.dK [])) R := w.new hp
  have wp : Wd X.K c a0 (p :: S) (upd H p (.dK [])) (upd H p (.dK [])) R := w0.here.add upd_same nt_dK
  have s0 : Sub (hide H S) (hide (upd H p (.dK [])) (p :: S)) := fun b o h n => by
    obtain ⟨nb, h⟩ := of_hide h
    have e : b ≠ p := ne_of_none h hp
    rw [hide_out (fun z => (List.mem_cons.mp z).elim e nb), upd_ne e]
    exact h
  have na : p ≠ a0 := fun z => by
    obtain ⟨sc, e, _⟩ := w.row
    rw [← z, hp] at e; cases e
  have back : ∀ {H' R'}, Wd X.K c a0 (p :: S) (upd H p (.dK [])) H' R' → Wd X.K c a0 S H H' R' := fun w' => w0.trans (w'.less (fun b hb => List.mem_cons_of_mem _ hb) w.a0S)
  refine ⟨a0, p :: S, ρ, R, wp, en.mono s0, (Ends.bind q).mono (fun x R1 q u H1 w1 r1 => ?_) fun nm R1 e dx H' w' h => e dx H' (back w') h⟩
  refine ⟨a0, p :: S, ρ, R1, w1.here, (en.mono s0).mono w1.sub, (Ends.bind q).mono (fun y R2 q z H2 w2 r2 => ?_) fun nm R1 e dx H' w' h => e dx H' (back (w1.trans w')) h⟩
  split at q
  · rename_i hkey
    have w12 := w1.trans w2
    have h2 : H2 p = some (.dK []) := w12.gr p _ na upd_same nt_dK
    cases ek : toKey x with
    | none => rw [ek] at hkey; cases hkey
    | some key =>
      have ex := toKey_eq ek
      have eu : u = kV key := by
        rw [ex] at r1
        cases key with
        | inl i => exact r1.int_inv
        | inr t => exact r1.str_inv
      refine ⟨h2, [(key, z)], by rw [eu]; rfl, (show 1 ≤ 15 by decide), ?_⟩
      have hf : Fr H p := fun o e => by rw [hp] at e; cases e
      refine q p _ hf ((back w12).putO hf h2 True.intro na) (.inl ⟨[(key, z)], upd_same, ?_⟩)
      rw [ex]
      refine .cons (r2.mono fun b o h n => ?_) .nil
      obtain ⟨nb, h⟩ := of_hide h
      rw [hide_out nb, upd_ne (fun e => nb (by rw [e]; exact List.mem_cons_self))]
      exact h
  · exact q.elim
end
end Ev
namespace Ev
open PySem
/-- an error of the class at S is what «except S» names -/
theorem exm_self {K : PySem.W.Frag} {S : Addr} (h1 : PySem.W.subIn K (.ref S) (.type "BaseException") = some true) (h2 : PySem.W.isClsIn K S = true) (h3 : PySem.W.typeIn K (.ref S) = some (.type "type")) (h4 : PySem.W.subIn K (.ref S) (.ref S) = some true) :
    PySem.W.exmOne K (.ref S) (.ref S) = some true := by
  have e1 : (PySem.W.subIn K (.ref S) (.type "BaseException") == some true) = true := by rw [h1] <;> rfl
  have e2 : ((PySem.W.clsIn K S).isSome && PySem.W.typeIn K (.ref S) == some (.type "type")) = true := by
    have h2' : (PySem.W.clsIn K S).isSome = true := h2
    rw [h2', h3] <;> rfl
  show (if (PySem.W.subIn K (.ref S) (.type "BaseException") == some true) = true then (if ((PySem.W.clsIn K S).isSome && PySem.W.typeIn K (.ref S) == some (.type "type")) = true then PySem.W.subIn K (.ref S) (.ref S) else none) else none) = some true
  rw [if_pos e1, if_pos e2]
  exact h4
end Ev
namespace Ev
open PySem PySem.Spec
def rng1 (xs : List PyData) (R : Row) : Res (List PyData) := if xs.length = 1 then ofO (rangeD xs) R else .stuck
def rng2 (xs : List PyData) (R : Row) : Res (List PyData) := if xs.length = 2 then ofO (rangeD xs) R else .stuck
def rng3 (xs : List PyData) (R : Row) : Res (List PyData) := if xs.length = 3 then ofO (rangeD xs) R else .stuck
def lRange1 (l : DenL) : DenL := fun ρ R => (l ρ R).bind rng1
def lRange2 (l : DenL) : DenL := fun ρ R => (l ρ R).bind rng2
def lRange3 (l : DenL) : DenL := fun ρ R => (l ρ R).bind rng3
end Ev

/-! Ev: evaluation by rewriting -/
namespace Ev
open PySem PySem.Spec
abbrev FX : Str → Row → Prop := fun _ _ => False
section
variable {α β : Type} {ok : α → Row → Prop} {okb : β → Row → Prop} {ex : Str → Row → Prop} {R : Row}
theorem e_bind (r : Res α) (f : α → Row → Res β) : Ends (r.bind f) okb ex = Ends r (fun a R => Ends (f a R) okb ex) ex := by cases r <;> rfl
@[simp] theorem e_ok (a : α) : Ends (Res.ok a R) ok ex = ok a R := eqr rfl
@[simp] theorem e_exc (nm : Str) : Ends (Res.exc nm R : Res α) ok ex = ex nm R := eqr rfl
@[simp] theorem e_stuck : Ends (Res.stuck : Res α) ok ex = False := eqr rfl
theorem Ends.to_bind {r : Res α} {f : α → Row → Res β} (h : Ends r (fun a R => Ends (f a R) okb ex) ex) : Ends (r.bind f) okb ex := by rw [e_bind]; exact h
theorem Ends.step {r : Res α} {f : α → Row → Res β} {P : α → Row → Prop} (h : Ends r P FX) (k : ∀ a R, P a R → Ends (f a R) okb ex) : Ends (r.bind f) okb ex := by
  rw [e_bind]
  exact h.mono k fun _ _ z => z.elim
@[simp] theorem ofO_none : ofO (none : Option α) R = .stuck := eqr rfl
@[simp] theorem bind_ite (c : Prop) [Decidable c] (x y : Res α) (f : α → Row → Res β) : (if c then x else y).bind f = if c then x.bind f else y.bind f := by split <;> rfl
@[simp] theorem ofO_ite (c : Prop) [Decidable c] (x y : Option α) : ofO (if c then x else y) R = if c then ofO x R else ofO y R := by split <;> rfl
@[simp] theorem ofO_map (o : Option α) (f : α → β) : ofO (o.map f) R = (ofO o R).bind fun a R => .ok (f a) R := by cases o <;> rfl
@[simp] theorem bind_bind {γ : Type} (r : Res α) (f : α → Row → Res β) (g : β → Row → Res γ) : (r.bind f).bind g = r.bind fun a R => (f a R).bind g := by cases r <;> rfl
theorem e_ite (c : Prop) [Decidable c] (x y : Res α) : Ends (if c then x else y) ok ex = if c then Ends x ok ex else Ends y ok ex := by split <;> rfl
end
section
variable {ρ : Env} {R : Row} {d d1 d2 d3 : Den} {b b1 b2 : DenB} {l l1 l2 : DenL} {s s1 s2 : DenS} {i k : Nat} {x y : PyData} {f g : PyData → PyData → Option PyData} {u : PyData → Option PyData}
@[simp] theorem dVar_ap : dVar i ρ R = ofO (ρ[i]?.join) R := eqr rfl
@[simp] theorem dC_ap : dC x ρ R = .ok x R := eqr rfl
@[simp] theorem dBin_ap : dBin f d1 d2 ρ R = (d1 ρ R).bind fun x R1 => (d2 ρ R1).bind fun y R2 => ofO (f x y) R2 := eqr rfl
@[simp] theorem dUn_ap : dUn u d ρ R = (d ρ R).bind fun x R1 => ofO (u x) R1 := eqr rfl
@[simp] theorem dTB_ap : dTB d ρ R = (d ρ R).bind fun x R1 => ofO (boolD x) R1 := eqr rfl
@[simp] theorem dChain_ap : dChain f g d1 d2 d3 ρ R = (d1 ρ R).bind fun x R1 => (d2 ρ R1).bind fun y R2 => (ofO ((f x y).bind boolD) R2).bind fun b R3 => if b then (d3 ρ R3).bind fun z R4 => ofO (g y z) R4 else .ok (.bool false) R3 := eqr rfl
@[simp] theorem dAnd_ap : dAnd d1 d2 ρ R = (d1 ρ R).bind fun x R1 => (ofO (boolD x) R1).bind fun b R2 => if b then d2 ρ R2 else .ok (.bool false) R2 := eqr rfl
@[simp] theorem dOr_ap : dOr d1 d2 ρ R = (d1 ρ R).bind fun x R1 => (ofO (boolD x) R1).bind fun b R2 => if b then .ok (.bool true) R2 else d2 ρ R2 := eqr rfl
@[simp] theorem dNot_ap : dNot d ρ R = (d ρ R).bind fun x R1 => (ofO (boolD x) R1).bind fun b R2 => .ok (.bool !b) R2 := eqr rfl
@[simp] theorem bAnd_ap : bAnd b1 b2 ρ R = (b1 ρ R).bind fun b R2 => if b then b2 ρ R2 else .ok false R2 := eqr rfl
@[simp] theorem bOr_ap : bOr b1 b2 ρ R = (b1 ρ R).bind fun b R2 => if b then .ok true R2 else b2 ρ R2 := eqr rfl
@[simp] theorem bNot_ap : bNot b ρ R = (b ρ R).bind fun b R2 => .ok (!b) R2 := eqr rfl
@[simp] theorem bYes_ap : bYes ρ R = .ok true R := eqr rfl
@[simp] theorem dIf_ap : dIf b d1 d2 ρ R = (b ρ R).bind fun c R1 => if c then d1 ρ R1 else d2 ρ R1 := eqr rfl
@[simp] theorem lNil_ap : lNil ρ R = .ok [] R := eqr rfl
@[simp] theorem lCons_ap : lCons d l ρ R = (d ρ R).bind fun x R1 => (l ρ R1).bind fun xs R2 => .ok (x :: xs) R2 := eqr rfl
@[simp] theorem lApp_ap : lApp l1 l2 ρ R = (l1 ρ R).bind fun xs R1 => (l2 ρ R1).bind fun ys R2 => .ok (xs ++ ys) R2 := eqr rfl
theorem small_sz {n : Nat} (h : n ≤ 1000000) : n ≤ sizeLine := by rw [PySem.sizeLine_eq]; omega
@[simp] theorem dTup_ap : dTup l ρ R = (l ρ R).bind fun xs R1 => if xs.length ≤ sizeLine then .ok (.tuple xs) R1 else .stuck := eqr rfl
@[simp] theorem nLst_ap : nLst l ρ R = (l ρ R).bind fun xs R1 => if xs.length ≤ sizeLine then .ok xs R1 else .stuck := eqr rfl
@[simp] theorem dLst_ap : dLst l ρ R = (l ρ R).bind fun xs R1 => .ok (.list xs) R1 := eqr rfl
@[simp] theorem dCallF_ap {F : List PyData → Row → Res PyData} : dCallF F l ρ R = (l ρ R).bind F := eqr rfl
@[simp] theorem dBlt_ap {F : List PyData → Option PyData} : dBlt F l ρ R = (l ρ R).bind fun xs R1 => ofO (F xs) R1 := eqr rfl
@[simp] theorem nBlt_ap {F : List PyData → Option (List PyData)} : nBlt F l ρ R = (l ρ R).bind fun xs R1 => ofO (F xs) R1 := eqr rfl
@[simp] theorem nBin_ap {F : PyData → PyData → Option (List PyData)} : nBin F d1 d2 ρ R = (d1 ρ R).bind fun x R1 => (d2 ρ R1).bind fun y R2 => ofO (F x y) R2 := eqr rfl
@[simp] theorem oNone_ap : oNone ρ R = .ok none R := eqr rfl
@[simp] theorem oSome_ap : oSome d ρ R = (d ρ R).bind fun x R1 => (ofO (intQ x) R1).bind fun i R2 => .ok (some i) R2 := by
  unfold oSome
  simp
@[simp] theorem intQ_i {j : Int} : intQ (.int j) = some j := eqr rfl
@[simp] theorem dSlice_ap {l h : Env → Row → Res (Option Int)} : dSlice d l h ρ R = (d ρ R).bind fun x R1 => (l ρ R1).bind fun lo R2 => (h ρ R2).bind fun hi R3 => ofO (sliceD x lo hi) R3 := eqr rfl
@[simp] theorem nSlice_ap {l h : Env → Row → Res (Option Int)} : nSlice d l h ρ R = (d ρ R).bind fun x R1 => (l ρ R1).bind fun lo R2 => (h ρ R2).bind fun hi R3 => ofO (sliceN x lo hi) R3 := eqr rfl
@[simp] theorem lSeq_ap : lSeq d ρ R = (d ρ R).bind fun x R1 => ofO (seqD x) R1 := eqr rfl
@[simp] theorem seqD_l {xs : List PyData} : seqD (.list xs) = some xs := eqr rfl
@[simp] theorem seqD_t {xs : List PyData} : seqD (.tuple xs) = some xs := eqr rfl
@[simp] theorem lZip_ap : lZip l ρ R = (l ρ R).bind fun ds R1 => ofO (zipD ds) R1 := eqr rfl
@[simp] theorem zipD_l {xs ys : List PyData} : zipD [.list xs, .list ys] = some (pairD xs ys) := eqr rfl
@[simp] theorem zipD_t {xs ys : List PyData} : zipD [.tuple xs, .tuple ys] = some (pairD xs ys) := eqr rfl
@[simp] theorem dDisp1_ap : dDisp1 d1 d2 ρ R = (d1 ρ R).bind fun k R1 => (d2 ρ R1).bind fun v R2 => if (toKey k).isSome then .ok (.dict [(k, v)]) R2 else .stuck := eqr rfl
@[simp] theorem lRange1_ap : lRange1 l ρ R = (l ρ R).bind rng1 := eqr rfl
@[simp] theorem lRange2_ap : lRange2 l ρ R = (l ρ R).bind rng2 := eqr rfl
@[simp] theorem lRange3_ap : lRange3 l ρ R = (l ρ R).bind rng3 := eqr rfl
theorem range_1 {j : Int} (h : in62 j) : rangeD [.int j] = some (rangeL 0 j.toNat) := if_pos h
theorem range_2 {i j : Int} (h : in62 i) (h' : in62 j) : rangeD [.int i, .int j] = some (rangeL i (j - i).toNat) := if_pos ⟨h, h'⟩
theorem range_3 {i j : Int} (h : in62 i) (h' : in62 j) : rangeD [.int i, .int j, .int (-1)] = some (rangeC i (-1) (i - j).toNat) := if_pos ⟨h, h'⟩
theorem rng1_i {j : Int} (h : in62 j) : rng1 [.int j] R = .ok (rangeL 0 j.toNat) R := by
  show ofO (rangeD [.int j]) R = _
  rw [range_1 h]
  rfl
theorem rng2_i {i j : Int} (h : in62 i) (h' : in62 j) : rng2 [.int i, .int j] R = .ok (rangeL i (j - i).toNat) R := by
  show ofO (rangeD [.int i, .int j]) R = _
  rw [range_2 h h']
  rfl
theorem rng3_i {i j : Int} (h : in62 i) (h' : in62 j) : rng3 [.int i, .int j, .int (-1)] R = .ok (rangeC i (-1) (i - j).toNat) R := by
  show ofO (rangeD [.int i, .int j, .int (-1)]) R = _
  rw [range_3 h h']
  rfl
theorem in62_of {i : Int} (h : -1000000000 ≤ i) (h' : i ≤ 1000000000) : in62 i := ⟨by omega, by omega⟩
theorem rng1_s {j : Int} (h : -1000000000 ≤ j) (h' : j ≤ 1000000000) : rng1 [.int j] R = .ok (rangeL 0 j.toNat) R := rng1_i (in62_of h h')
theorem rng2_s {i j : Int} (h : -1000000000 ≤ i ∧ i ≤ 1000000000) (h' : -1000000000 ≤ j ∧ j ≤ 1000000000) : rng2 [.int i, .int j] R = .ok (rangeL i (j - i).toNat) R := rng2_i (in62_of h.1 h.2) (in62_of h'.1 h'.2)
-- the row
@[simp] theorem rowAt0 {ρ : Env} : rowAt (some rowD :: ρ) 0 = some () := eqr rfl
@[simp] theorem rowAt1 {ρ : Env} {a : Option PyData} : rowAt (a :: some rowD :: ρ) 1 = some () := eqr rfl
@[simp] theorem get1 : R.get 1 = some R.i := eqr rfl
@[simp] theorem get2 : R.get 2 = some R.m := eqr rfl
@[simp] theorem get3 : R.get 3 = some R.c := eqr rfl
@[simp] theorem put1 {z : Int} : R.put 1 z = some { R with i := z } := eqr rfl
@[simp] theorem put2 {z : Int} : R.put 2 z = some { R with m := z } := eqr rfl
@[simp] theorem put3 {z : Int} : R.put 3 z = some { R with c := z } := eqr rfl
@[simp] theorem dRow_ap : dRow i k ρ R = (ofO (rowAt ρ i) R).bind fun _ R => (ofO (R.get k) R).bind fun z R => .ok (.int z) R := eqr rfl
@[simp] theorem dRowLen_ap : dRowLen i ρ R = (ofO (rowAt ρ i) R).bind fun _ R => .ok (.int R.ns.length) R := eqr rfl
def cellR (x : PyData) (R : Row) : Res PyData := match x with | .int k => (ofO (L2.atI R.ns k) R).bind fun z R2 => .ok (.int z) R2 | _ => .stuck
@[simp] theorem dRowCell_ap : dRowCell i d ρ R = (ofO (rowAt ρ i) R).bind fun _ R => (d ρ R).bind cellR := eqr rfl
@[simp] theorem cellR_i {k : Int} : cellR (.int k) R = (ofO (L2.atI R.ns k) R).bind fun z R2 => .ok (.int z) R2 := eqr rfl
def putR (ρ : Env) (k : Nat) (x : PyData) (R : Row) : Res Fl := match x with | .int z => (ofO (R.put k z) R).bind fun R2 _ => .ok (.nx ρ) R2 | _ => .stuck
@[simp] theorem sRow_ap : sRow i k d ρ R = (d ρ R).bind fun x R1 => (ofO (rowAt ρ i) R1).bind fun _ R1 => putR ρ k x R1 := eqr rfl
@[simp] theorem putR_i {z : Int} : putR ρ k (.int z) R = (ofO (R.put k z) R).bind fun R2 _ => .ok (.nx ρ) R2 := eqr rfl
-- statements
@[simp] theorem sNext_ap : sNext ρ R = .ok (.nx ρ) R := eqr rfl
@[simp] theorem sSeq_ap : sSeq s1 s2 ρ R = (s1 ρ R).bind (sThen s2) := eqr rfl
@[simp] theorem sThen_nx {F : Env → Row → Res Fl} : sThen F (.nx ρ) R = F ρ R := eqr rfl
@[simp] theorem sThen_rt {F : Env → Row → Res Fl} : sThen F (.rt x) R = .ok (.rt x) R := eqr rfl
@[simp] theorem sIf_ap : sIf b s1 s2 ρ R = (b ρ R).bind fun c R1 => if c then s1 ρ R1 else s2 ρ R1 := eqr rfl
@[simp] theorem sRet_ap : sRet d ρ R = (d ρ R).bind fun x R1 => .ok (.rt x) R1 := eqr rfl
@[simp] theorem sExpr_ap : sExpr d ρ R = (d ρ R).bind fun _ R1 => .ok (.nx ρ) R1 := eqr rfl
def raiseR (x : PyData) (R : Row) : Res Fl := match x with | .str nm => .exc nm R | _ => .stuck
@[simp] theorem sRaise_ap : sRaise d ρ R = (d ρ R).bind raiseR := eqr rfl
@[simp] theorem raiseR_s {nm : Str} : raiseR (.str nm) R = .exc nm R := eqr rfl
def asgR (t : Tgt) (ρ : Env) (x : PyData) (R : Row) : Res Fl := match t x ρ with | some ρ' => .ok (.nx ρ') R | none => .stuck
@[simp] theorem sAsgM_ap {ks : List Nat} {t : Tgt} : sAsgM ks t d ρ R = (d (wipeE ρ ks) R).bind (asgR t ρ) := eqr rfl
@[simp] theorem sAsg_ap {t : Tgt} : sAsg t d ρ R = (d ρ R).bind fun x R1 => if pureD x then asgR t ρ x R1 else .stuck := eqr rfl
@[simp] theorem asgR_g : asgR (gSet i) ρ x R = .ok (.nx (ρ.set i (some x))) R := eqr rfl
theorem asgR_some {t : Tgt} {ρ' : Env} (h : t x ρ = some ρ') : asgR t ρ x R = .ok (.nx ρ') R := by unfold asgR; rw [h]
@[simp] theorem wipe_nil : wipeE ρ [] = ρ := eqr rfl
@[simp] theorem wipe_cons {v : Nat} {vs : List Nat} : wipeE ρ (v :: vs) = (wipeE ρ vs).set v none := eqr rfl
@[simp] theorem gSet_ap : gSet i x ρ = some (ρ.set i (some x)) := eqr rfl
@[simp] theorem gTup_t {n : Nat} {t : Tgts} {xs : List PyData} : gTupD n t (.tuple xs) ρ = if xs.length = n then t xs ρ else none := eqr rfl
@[simp] theorem gTup_l {n : Nat} {t : Tgts} {xs : List PyData} : gTupD n t (.list xs) ρ = if xs.length = n then t xs ρ else none := eqr rfl
@[simp] theorem gsCons_ap {t : Tgt} {ts : Tgts} {xs : List PyData} : gsCons t ts (x :: xs) ρ = (t x ρ).bind fun ρ1 => ts xs ρ1 := eqr rfl
@[simp] theorem gsNil_ap : gsNil [] ρ = some ρ := eqr rfl
@[simp] theorem gMore_ap {us : List Nat} {t : Tgt} : gMore us t x ρ = t x (wipeE ρ us) := eqr rfl
@[simp] theorem sNew_ap : sNew i d ρ R = (d ρ R).bind fun x R1 => if pureIn x && decide (i < ρ.length) then .ok (.nx (ρ.set i (some x))) R1 else .stuck := eqr rfl
@[simp] theorem sNewM_ap {ks : List Nat} : sNewM ks i d ρ R = (d (wipeE ρ ks) R).bind fun x R1 => if decide (i < ρ.length) then .ok (.nx (ρ.set i (some x))) R1 else .stuck := eqr rfl
@[simp] theorem sApp_ap : sApp i d ρ R = (ofO (lstAt ρ i) R).bind fun ds R0 => (d ρ R0).bind fun v R1 => if pureD v && decide (ds.length < sizeLine) then .ok (.nx (ρ.set i (some (.list (ds ++ [v]))))) R1 else .stuck := eqr rfl
@[simp] theorem sSetI_ap : sSetI i d1 d2 ρ R = (d2 ρ R).bind fun v R1 => (ofO (valAt ρ i) R1).bind fun x R2 => (d1 ρ R2).bind fun k R3 => if pureD v then (ofO (setD x k v) R3).bind fun d R4 => .ok (.nx (ρ.set i (some d))) R4 else .stuck := eqr rfl
@[simp] theorem sAug_ap {F : Int → Int → Int} : sAug i F d ρ R = (ofO (valAt ρ i) R).bind fun x R1 => (d ρ R1).bind fun y R2 => (ofO (ipD F x y) R2).bind fun z R3 => .ok (.nx (ρ.set i (some z))) R3 := eqr rfl
@[simp] theorem valAt_ap : valAt ρ i = ρ[i]?.join := eqr rfl
def lstO (o : Option PyData) : Option (List PyData) := match o with | some (.list ds) => some ds | _ => none
@[simp] theorem lstAt_ap : lstAt ρ i = lstO (ρ[i]?.join) := eqr rfl
@[simp] theorem lstO_l {xs : List PyData} : lstO (some (.list xs)) = some xs := eqr rfl
@[simp] theorem sForM_ap {ks : List Nat} {t : Tgt} : sForM ks l t s ρ R = (l (wipeE ρ ks) R).bind fun ds R1 => forM (turnF t s) ds ρ R1 := eqr rfl
@[simp] theorem sFor_ap {t : Tgt} : sFor l t s ρ R = (l ρ R).bind fun ds R1 => forM (turnF t s) ds ρ R1 := eqr rfl
@[simp] theorem nComp_ap {t : Tgt} {vs : List Nat} : nComp l t vs b d ρ R = (l ρ R).bind fun ds R1 => (compM (turnC t vs b d ρ) ds R1).bind fun xs R2 => if xs.length ≤ sizeLine then .ok xs R2 else .stuck := eqr rfl
@[simp] theorem nComp2_ap {t t1 : Tgt} {vs vs1 : List Nat} : nComp2 l t vs b l1 t1 vs1 b1 d ρ R = (l ρ R).bind fun ds R1 => (compM (turnC2 t vs b l1 t1 vs1 b1 d ρ) ds R1).bind fun xs R2 => if xs.length ≤ sizeLine then .ok xs R2 else .stuck := eqr rfl
@[simp] theorem forM_nil {F : PyData → Env → Row → Res Fl} : forM F [] ρ R = .ok (.nx ρ) R := eqr rfl
-- operators
@[simp] theorem boolD_b {c : Bool} : boolD (.bool c) = some c := eqr rfl
@[simp] theorem addD_i {a b : Int} : addD (.int a) (.int b) = some (.int (a + b)) := eqr rfl
@[simp] theorem addD_t {xs ys : List PyData} : addD (.tuple xs) (.tuple ys) = if xs.length + ys.length ≤ sizeLine then some (.tuple (xs ++ ys)) else none := eqr rfl
@[simp] theorem subD_i {a b : Int} : subD (.int a) (.int b) = some (.int (a - b)) := eqr rfl
@[simp] theorem mulD_i {a b : Int} : mulD (.int a) (.int b) = if near a || near b then some (.int (a * b)) else none := eqr rfl
@[simp] theorem mulD_t {xs : List PyData} {k : Int} : mulD (.tuple xs) (.int k) = if xs ≠ [] ∧ 1 ≤ k ∧ k ≤ 1000 ∧ xs.length ≤ 1000 then some (.tuple (List.replicate k.toNat xs).flatten) else none := eqr rfl
@[simp] theorem fdivD_i {a b : Int} : fdivD (.int a) (.int b) = if 0 < b ∧ b < 1073741824 then some (.int (a / b)) else none := eqr rfl
@[simp] theorem modD_i {a b : Int} : modD (.int a) (.int b) = if 0 < b then some (.int (a % b)) else none := eqr rfl
@[simp] theorem powD_i {a b : Int} : powD (.int a) (.int b) = if 0 ≤ b ∧ b ≤ 1000000 ∧ a.natAbs < 2 ^ 64 then some (.int (a ^ b.toNat)) else none := eqr rfl
@[simp] theorem cmpD_i {F : Int → Int → Bool} {a b : Int} : cmpD F (.int a) (.int b) = some (.bool (F a b)) := eqr rfl
@[simp] theorem negD_i {a : Int} : negD (.int a) = some (.int (-a)) := eqr rfl
@[simp] theorem intD_i {a : Int} : intD [.int a] = some (.int a) := eqr rfl
@[simp] theorem lenD_l {xs : List PyData} : lenD [.list xs] = some (.int xs.length) := eqr rfl
@[simp] theorem lenD_t {xs : List PyData} : lenD [.tuple xs] = some (.int xs.length) := eqr rfl
@[simp] theorem max2_i {a b : Int} : max2D [.int a, .int b] = some (.int (if b > a then b else a)) := eqr rfl
@[simp] theorem min2_i {a b : Int} : min2D [.int a, .int b] = some (.int (if b < a then b else a)) := eqr rfl
theorem sumD_l {xs : List PyData} : sumD [.list xs] = if xs.all isInt then some (.int (xs.map intOf).sum) else none := eqr rfl
theorem allD_l {xs : List PyData} : allD [.list xs] = if xs.all isBool then some (.bool (xs.all boolOf)) else none := eqr rfl
theorem anyD_l {xs : List PyData} : anyD [.list xs] = if xs.all isBool then some (.bool (xs.any boolOf)) else none := eqr rfl
@[simp] theorem tupleD_l {xs : List PyData} : tupleD [.list xs] = some (.tuple xs) := eqr rfl
@[simp] theorem tupleD_t {xs : List PyData} : tupleD [.tuple xs] = some (.tuple xs) := eqr rfl
@[simp] theorem listD_l {xs : List PyData} : listD [.list xs] = some xs := eqr rfl
@[simp] theorem listD_t {xs : List PyData} : listD [.tuple xs] = some xs := eqr rfl
@[simp] theorem catN_l {xs ys : List PyData} : catN (.list xs) (.list ys) = if xs.length + ys.length ≤ sizeLine then some (xs ++ ys) else none := eqr rfl
@[simp] theorem repN_l {xs : List PyData} {k : Int} : repN (.list xs) (.int k) = if -(2 ^ 63) ≤ k ∧ k < 2 ^ 63 ∧ xs.length * k.toNat ≤ sizeLine then some (List.replicate k.toNat xs).flatten else none := eqr rfl
@[simp] theorem idxD_l {xs : List PyData} {j : Int} : idxD (.list xs) (.int j) = L2.atI xs j := eqr rfl
@[simp] theorem idxD_t {xs : List PyData} {j : Int} : idxD (.tuple xs) (.int j) = L2.atI xs j := eqr rfl
@[simp] theorem idxD_d {ps : List (PyData × PyData)} : idxD (.dict ps) x = if kinOk ps x then dget ps x else none := by cases x <;> rfl
@[simp] theorem ipD_i {F : Int → Int → Int} {a b : Int} : ipD F (.int a) (.int b) = some (.int (F a b)) := eqr rfl
@[simp] theorem setD_l {xs : List PyData} {j : Int} : setD (.list xs) (.int j) x = (L2.ixN xs.length j).map fun n => .list (xs.set n x) := eqr rfl
@[simp] theorem setD_d {ps : List (PyData × PyData)} : setD (.dict ps) k' x = if kinOk ps k' && decide (ps.length < sizeLine) then some (.dict (dput ps k' x)) else none := by cases k' <;> rfl
@[simp] theorem isBD_b {a c : Bool} : isBD (.bool a) (.bool c) = some (.bool (decide (a = c))) := eqr rfl
@[simp] theorem notBD_b {a c : Bool} : notBD (.bool a) (.bool c) = some (.bool (!decide (a = c))) := eqr rfl
@[simp] theorem isND_n : isND x .none = some (.bool (noneD x)) := by cases x <;> rfl
@[simp] theorem notND_n : notND x .none = some (.bool (!noneD x)) := by cases x <;> rfl
@[simp] theorem sliceD_t {xs : List PyData} {lo hi : Option Int} : sliceD (.tuple xs) lo hi = some (.tuple (cutL xs lo hi)) := eqr rfl
@[simp] theorem sliceN_l {xs : List PyData} {lo hi : Option Int} : sliceN (.list xs) lo hi = some (cutL xs lo hi) := eqr rfl
@[simp] theorem isBool_b {c : Bool} : isBool (.bool c) = true := eqr rfl
@[simp] theorem boolOf_b {c : Bool} : boolOf (.bool c) = c := eqr rfl
@[simp] theorem isInt_i {c : Int} : isInt (.int c) = true := eqr rfl
@[simp] theorem intOf_i {c : Int} : intOf (.int c) = c := eqr rfl
@[simp] theorem sumD_map {α : Type} {F : α → Int} {xs : List α} : sumD [.list (xs.map fun x => PyData.int (F x))] = some (.int (xs.map F).sum) := by
  rw [sumD_l, if_pos (by simp), List.map_map]
  rfl
@[simp] theorem allD_map {α : Type} {F : α → Bool} {xs : List α} : allD [.list (xs.map fun x => PyData.bool (F x))] = some (.bool (xs.all F)) := by
  rw [allD_l, if_pos (by simp), List.all_map]
  rfl
@[simp] theorem anyD_map {α : Type} {F : α → Bool} {xs : List α} : anyD [.list (xs.map fun x => PyData.bool (F x))] = some (.bool (xs.any F)) := by
  rw [anyD_l, if_pos (by simp), List.any_map]
  rfl
theorem callF_def {j : Nat} {ds : List PyData} : callF j s ds R = (s (ds.map some ++ List.replicate j none) R).bind fun fl R1 => match fl with | .nx _ => .ok .none R1 | .rt d => .ok d R1 | _ => .stuck := rfl
end
/-- the row as the law keeps it -/
def RowOk (R : Row) : Prop := 0 ≤ R.i
def TakenP (F : List PyData → Row → Res PyData) : Prop := ∀ (R : Row) (n : Int), RowOk R → 0 < n → n < 1073741824 → Ends (F [rowD, .int n] R) (fun d R' => ∃ v, d = .int v ∧ 0 ≤ v ∧ v < n ∧ RowOk R') FX
end Ev

namespace Sh
open PySem PySem.Spec Ev
def den__law_taken : DenS :=
    (sSeq (sIf (dTB (dBin (cmpD fun i j => decide (j < i)) (dRow 0 3) (dC (.int 0))))
      (sSeq (sAsgM [] (gSet 3) (dBin modD (dBlt intD (lCons (dRow 0 3) lNil)) (dVar 1)))
    (sSeq (sRow 0 3 (dBin fdivD (dRow 0 3) (dVar 1)))
    (sRet (dVar 3))))
      sNext)
    (sSeq (sRow 0 1 (dBin addD (dRow 0 1) (dC (.int 1))))
    (sSeq (sIf (dTB (dBin (cmpD fun i j => decide (j < i)) (dRow 0 1) (dRowLen 0)))
      (sSeq (sRow 0 2 (dBin modD (dBlt intD (lCons (dBin addD (dBin mulD (dRow 0 2) (dC (.int 48271))) (dC (.int 11))) lNil)) (dC (.int 2147483647))))
    (sRet (dBin modD (dBlt intD (lCons (dBin fdivD (dRow 0 2) (dC (.int 7))) lNil)) (dVar 1))))
      sNext)
    (sSeq (sAsgM [] (gSet 2) (dRowCell 0 (dBin subD (dRow 0 1) (dC (.int 1)))))
    (sSeq (sRow 0 2 (dBin modD (dBlt intD (lCons (dBin addD (dBin addD (dBin mulD (dRow 0 2) (dC (.int 48271))) (dBlt intD (lCons (dVar 2) lNil))) (dC (.int 11))) lNil)) (dC (.int 2147483647))))
    (sSeq (sIf (dTB (dBin (cmpD fun i j => decide (j ≤ i)) (dVar 2) (dBin powD (dC (.int 10)) (dC (.int 18)))))
      (sRow 0 3 (dBin fdivD (dBlt intD (lCons (dBin modD (dBlt intD (lCons (dVar 2) lNil)) (dBin powD (dC (.int 10)) (dC (.int 90)))) lNil)) (dVar 1)))
      sNext)
    (sRet (dBin modD (dBlt intD (lCons (dVar 2) lNil)) (dVar 1)))))))))
def F__law_taken : List PyData → Ev.Row → Res PyData := callF 2 den__law_taken
def den_require : DenS :=
    (sIf (bNot (dTB (dVar 0)))
      (sRaise (dVar 1))
      sNext)
def F_require : List PyData → Ev.Row → Res PyData := callF 0 den_require
def den_is_whole : DenS :=
    (sRet (dAnd (dUn (isiD "int") (dVar 0)) (dAnd (dNot (dUn (isiD "bool") (dVar 0))) (dChain (cmpD fun i j => decide (i ≤ j)) (cmpD fun i j => decide (i ≤ j)) (dVar 1) (dVar 0) (dVar 2)))))
def F_is_whole : List PyData → Ev.Row → Res PyData := callF 0 den_is_whole
def den_is_row : DenS :=
    (sRet (dAnd (dUn (isiD "tuple") (dVar 0)) (dChain (cmpD fun i j => decide (i ≤ j)) (cmpD fun i j => decide (i ≤ j)) (dVar 1) (dBlt lenD (lCons (dVar 0) lNil)) (dVar 2))))
def F_is_row : List PyData → Ev.Row → Res PyData := callF 0 den_is_row
def den_are_wholes : DenS :=
    (sRet (dAnd (dCallF F_is_row (lCons (dVar 0) (lCons (dVar 1) (lCons (dVar 1) lNil)))) (dBlt allD (lCons (dLst (nComp (lSeq (dVar 0)) (gSet 4) [4] bYes (dCallF F_is_whole (lCons (dVar 4) (lCons (dVar 2) (lCons (dVar 3) lNil)))))) lNil))))
def F_are_wholes : List PyData → Ev.Row → Res PyData := callF 1 den_are_wholes
def den__law_pick : DenS :=
    (sRet (dBin idxD (dVar 1) (dCallF F__law_taken (lCons (dVar 0) (lCons (dBlt lenD (lCons (dVar 1) lNil)) lNil)))))
def F__law_pick : List PyData → Ev.Row → Res PyData := callF 0 den__law_pick
def den__law_alike (F__law_alike : List PyData → Ev.Row → Res PyData) : DenS :=
    (sSeq (sIf (dTB (dUn (isiD "tuple") (dVar 1)))
      (sSeq (sIf (bOr (bNot (dTB (dUn (isiD "tuple") (dVar 0)))) (dTB (dBin neD (dBlt lenD (lCons (dVar 0) lNil)) (dBlt lenD (lCons (dVar 1) lNil)))))
      (sRet (dC (.bool false)))
      sNext)
    (sRet (dBin eqD (dLst (nComp (lRange1 (lCons (dBlt lenD (lCons (dVar 1) lNil)) lNil)) (gSet 2) [2] (bNot (dTB (dCallF F__law_alike (lCons (dBin idxD (dVar 0) (dVar 2)) (lCons (dBin idxD (dVar 1) (dVar 2)) lNil))))) (dVar 2))) (dLst (nLst lNil)))))
      sNext)
    (sSeq (sIf (bOr (dTB (dBin isND (dVar 1) (dC .none))) (dTB (dUn (isiD "str") (dVar 1))))
      (sRet (dAnd (dBin eqD (dVar 0) (dVar 1)) (dBin eqD (dUn (isiD "str") (dVar 0)) (dUn (isiD "str") (dVar 1)))))
      sNext)
    (sRet (dAnd (dUn (isiD "int") (dVar 0)) (dAnd (dBin eqD (dUn (isiD "bool") (dVar 0)) (dUn (isiD "bool") (dVar 1))) (dBin eqD (dVar 0) (dVar 1)))))))
def F__law_alike : Nat → List PyData → Ev.Row → Res PyData
  | 0 => fun _ _ => .stuck
  | n + 1 => callF 1 (den__law_alike (F__law_alike n))
theorem atI_lt {α : Type} {xs : List α} {i : Int} (h0 : 0 ≤ i) (h1 : i < xs.length) : ∃ x, L2.atI xs i = some x ∧ x ∈ xs ∧ xs[i.toNat]? = some x := by
  have h : i.toNat < xs.length := by omega
  refine ⟨xs[i.toNat], ?_, List.getElem_mem h, List.getElem?_eq_getElem h⟩
  unfold L2.atI L2.ixN
  rw [if_pos h0, if_pos h1]
  exact List.getElem?_eq_getElem h
theorem taken_spec : TakenP F__law_taken := by
  intro R n hR h0 h1
  obtain ⟨ns, i, m, c⟩ := R
  have hi : 0 ≤ i := hR
  have hn : near 48271 = true := rfl
  have nz : n ≠ 0 := by omega
  unfold F__law_taken den__law_taken
  simp [callF_def, h0, h1, hn, e_ite]
  split
  · exact ⟨Int.emod_nonneg _ nz, Int.emod_lt_of_pos _ h0, hi⟩
  · split
    · exact ⟨Int.emod_nonneg _ nz, Int.emod_lt_of_pos _ h0, by show 0 ≤ i + 1; omega⟩
    · rename_i hlt
      obtain ⟨z, e, _, _⟩ := atI_lt (xs := ns) hi (by omega)
      rw [e]
      simp [hn, e_ite, h0, h1]
      split
      · exact ⟨Int.emod_nonneg _ nz, Int.emod_lt_of_pos _ h0, by show 0 ≤ i + 1; omega⟩
      · exact ⟨Int.emod_nonneg _ nz, Int.emod_lt_of_pos _ h0, by show 0 ≤ i + 1; omega⟩
theorem pick_spec {R : Ev.Row} {xs : List PyData} (hR : RowOk R) (h0 : xs ≠ []) (h1 : xs.length < 1073741824) : Ends (F__law_pick [rowD, .list xs] R) (fun d R' => d ∈ xs ∧ RowOk R') FX := by
  have hl : 0 < xs.length := List.length_pos_iff.mpr h0
  unfold F__law_pick den__law_pick
  simp [callF_def]
  refine Ends.step (taken_spec R xs.length hR (by omega) (by omega)) fun d R' ⟨v, e, a, b, c⟩ => ?_
  subst e
  obtain ⟨x, e, m, _⟩ := atI_lt a b
  simp [e, m, c]
/-- a text whose signs are signs -/
def isWholeD (d : PyData) (a b : Int) : Bool := match d with
  | .int i => decide (a ≤ i) && decide (i ≤ b)
  | _ => false
def isRowD (d : PyData) (a b : Int) : Bool := match d with
  | .tuple xs => decide (a ≤ (xs.length : Int)) && decide ((xs.length : Int) ≤ b)
  | _ => false
def areWholesD (d : PyData) (n a b : Int) : Bool := match d with
  | .tuple xs => decide ((xs.length : Int) = n) && xs.all fun x => isWholeD x a b
  | _ => false
theorem is_whole_eq {R : Ev.Row} {d : PyData} {a b : Int} (h : dataD d = true) : F_is_whole [d, .int a, .int b] R = .ok (.bool (isWholeD d a b)) R := by
  unfold F_is_whole den_is_whole
  cases d with
  | dict ps => simp [dataD] at h
  | int i =>
    by_cases h1 : a ≤ i <;> simp [callF_def, isiD, isTy, dataD, isWholeD, h1, PyData.isInt, PyData.isBool]
  | bool i => simp [callF_def, isiD, isTy, dataD, isWholeD, PyData.isInt, PyData.isBool]
  | _ => simp_all [callF_def, isiD, isTy, dataD, isWholeD, PyData.isInt, PyData.isBool]
theorem is_row_eq {R : Ev.Row} {d : PyData} {a b : Int} (h : dataD d = true) : F_is_row [d, .int a, .int b] R = .ok (.bool (isRowD d a b)) R := by
  unfold F_is_row den_is_row
  cases d with
  | dict ps => simp [dataD] at h
  | tuple xs =>
    have h' : dataA xs = true := h
    simp [callF_def, isiD, isTy, dataD, isRowD, PyData.isTuple, h']
    split <;> (simp_all <;> try omega)
  | _ => simp_all [callF_def, isiD, isTy, dataD, isRowD, PyData.isTuple]
theorem dataA_all : ∀ {xs : List PyData}, dataA xs = true → ∀ x ∈ xs, dataD x = true
  | [], _, _, h => by simp at h
  | y :: ys, h, x, hx => by
    simp only [dataA, Bool.and_eq_true] at h
    rcases List.mem_cons.mp hx with e | hx
    · rw [e]; exact h.1
    · exact dataA_all h.2 x hx
theorem compM_flat {f : PyData → Ev.Row → Res (List PyData)} {g : PyData → List PyData} {R : Ev.Row} : ∀ {ds : List PyData}, (∀ d ∈ ds, f d R = .ok (g d) R) → compM f ds R = .ok (ds.flatMap g) R
  | [], _ => rfl
  | d :: ds, h => by
    rw [compM, h d List.mem_cons_self]
    show (compM f ds R).bind _ = _
    rw [compM_flat fun d' hd => h d' (List.mem_cons_of_mem _ hd)]
    rfl
theorem compM_map {f : PyData → Ev.Row → Res (List PyData)} {g : PyData → PyData} {R : Ev.Row} {ds : List PyData} (h : ∀ d ∈ ds, f d R = .ok [g d] R) : compM f ds R = .ok (ds.map g) R := by
  rw [compM_flat h]
  congr 1
  induction ds with
  | nil => rfl
  | cons a l ih => rw [List.flatMap_cons, ih fun d hd => h d (List.mem_cons_of_mem _ hd)]; rfl
theorem compM_filter {f : PyData → Ev.Row → Res (List PyData)} {p : PyData → Bool} {g : PyData → PyData} {R : Ev.Row} {ds : List PyData} (h : ∀ d ∈ ds, f d R = .ok (if p d then [g d] else []) R) : compM f ds R = .ok ((ds.filter p).map g) R := by
  rw [compM_flat h]
  congr 1
  induction ds with
  | nil => rfl
  | cons a l ih =>
    rw [List.flatMap_cons, ih fun d hd => h d (List.mem_cons_of_mem _ hd), List.filter_cons]
    split <;> rfl
@[simp] theorem turnC_g {i : Nat} {vs : List Nat} {tt : DenB} {elt : Den} {ρ : Ev.Env} {d : PyData} {R : Ev.Row} : turnC (gSet i) vs tt elt ρ d R = (tt ((wipeE ρ vs).set i (some d)) R).bind fun b R1 => if b then (elt ((wipeE ρ vs).set i (some d)) R1).bind fun y R2 => .ok [y] R2 else .ok [] R1 := eqr rfl
@[simp] theorem turnC_p {i j : Nat} {vs : List Nat} {tt : DenB} {elt : Den} {ρ : Ev.Env} {x y : PyData} {R : Ev.Row} : turnC (gTupD 2 (gsCons (gSet i) (gsCons (gSet j) gsNil))) vs tt elt ρ (.tuple [x, y]) R = (tt (((wipeE ρ vs).set i (some x)).set j (some y)) R).bind fun b R1 => if b then (elt (((wipeE ρ vs).set i (some x)).set j (some y)) R1).bind fun z R2 => .ok [z] R2 else .ok [] R1 := eqr rfl
@[simp] theorem turnF_g {i : Nat} {s : DenS} {d : PyData} {ρ : Ev.Env} {R : Ev.Row} : turnF (gSet i) s d ρ R = s (ρ.set i (some d)) R := eqr rfl
@[simp] theorem turnF_p {i j : Nat} {s : DenS} {x y : PyData} {ρ : Ev.Env} {R : Ev.Row} : turnF (gTupD 2 (gsCons (gSet i) (gsCons (gSet j) gsNil))) s (.tuple [x, y]) ρ R = s ((ρ.set i (some x)).set j (some y)) R := eqr rfl
theorem all_map_bool {xs : List PyData} {p : PyData → Bool} : ((xs.map fun x => PyData.bool (p x)).all isBool) = true := by simp [isBool]
theorem are_wholes_eq {R : Ev.Row} {d : PyData} {n a b : Int} (h : dataD d = true) (hs : ∀ xs, d = .tuple xs → xs.length ≤ 1000000) : F_are_wholes [d, .int n, .int a, .int b] R = .ok (.bool (areWholesD d n a b)) R := by
  unfold F_are_wholes den_are_wholes
  simp [callF_def, is_row_eq h]
  cases d with
  | dict ps => simp [dataD] at h
  | tuple xs =>
    have hx : dataA xs = true := h
    have hz := small_sz (hs xs rfl)
    by_cases hn : (xs.length : Int) = n
    · have e1 : isRowD (.tuple xs) n n = true := by simp [isRowD, hn]
      rw [e1]
      simp
      rw [compM_map (g := fun x => .bool (isWholeD x a b)) fun x hx' => by simp [is_whole_eq (dataA_all hx x hx')]]
      simp [hz, areWholesD, hn]
    · have e1 : isRowD (.tuple xs) n n = false := by simp [isRowD]; omega
      rw [e1]
      simp [areWholesD, hn]
  | _ => simp [isRowD, areWholesD]
@[simp] theorem require_t {R : Ev.Row} {nm : Str} : F_require [.bool true, .str nm] R = .ok .none R := by
  unfold F_require den_require
  simp [callF_def]
@[simp] theorem require_f {R : Ev.Row} {nm : Str} : F_require [.bool false, .str nm] R = .exc nm R := by
  unfold F_require den_require
  simp [callF_def]
theorem mem_rangeL {lo : Int} {n : Nat} {d : PyData} : d ∈ rangeL lo n ↔ ∃ k : Nat, k < n ∧ d = .int (lo + (k : Int)) := by
  unfold rangeL
  simp only [List.mem_map, List.mem_range]
  exact ⟨fun ⟨k, h, e⟩ => ⟨k, h, e.symm⟩, fun ⟨k, h, e⟩ => ⟨k, h, e.symm⟩⟩
def plainD : Nat → PyData → Bool
  | 0, _ => false
  | n + 1, .tuple xs => xs.all (plainD n) && decide (xs.length ≤ 1000000)
  | _ + 1, .str x => PyData.strOk x
  | _ + 1, .int _ => true
  | _ + 1, .bool _ => true
  | _ + 1, .none => true
  | _ + 1, _ => false
theorem plain_data : ∀ {n : Nat} {d : PyData}, plainD n d = true → dataD d = true
  | 0, _, h => by simp [plainD] at h
  | n + 1, d, h => by
    cases d with
    | tuple xs =>
      simp only [plainD, Bool.and_eq_true, List.all_eq_true] at h
      exact dataAll fun x hx => plain_data (h.1 x hx)
    | list xs => simp [plainD] at h
    | dict xs => simp [plainD] at h
    | _ => rfl
theorem in62_nat {n : Nat} (h : n ≤ 1000000) : in62 ((n : Nat) : Int) := by unfold in62; omega
theorem compM_nil {f : PyData → Ev.Row → Res (List PyData)} {R : Ev.Row} {ds : List PyData} (h : ∀ d ∈ ds, f d R = .ok [] R) : compM f ds R = .ok [] R := by
  rw [compM_flat h]
  congr 1
  induction ds with
  | nil => rfl
  | cons a l ih => rw [List.flatMap_cons, ih fun d hd => h d (List.mem_cons_of_mem _ hd)]; rfl
theorem alike_leaf {n : Nat} {d : PyData} {R : Ev.Row} (h1 : dataD d = true) (h2 : PyData.isTuple d = false) (h3 : eqD d d = some (.bool true)) (h4 : noneD d = true ∨ PyData.isStr d = true ∨ PyData.isInt d = true) : F__law_alike (n + 1) [d, d] R = .ok (.bool true) R := by
  unfold F__law_alike den__law_alike
  have e1 : ∀ b : Bool, eqD (.bool b) (.bool b) = some (.bool true) := fun b => by cases b <;> rfl
  rcases h4 with h4 | h4 | h4
  · simp [callF_def, isiD, isTy, h1, h2, h3, h4, e1]
  · by_cases h5 : noneD d = true
    · simp [callF_def, isiD, isTy, h1, h2, h3, h4, h5, e1]
    · have h5 : noneD d = false := by simpa using h5
      simp [callF_def, isiD, isTy, h1, h2, h3, h4, h5, e1]
  · by_cases h5 : noneD d = true
    · simp [callF_def, isiD, isTy, h1, h2, h3, h4, h5, e1]
    · have h5 : noneD d = false := by simpa using h5
      by_cases h6 : PyData.isStr d = true
      · simp [callF_def, isiD, isTy, h1, h2, h3, h4, h5, h6, e1]
      · have h6 : PyData.isStr d = false := by simpa using h6
        simp [callF_def, isiD, isTy, h1, h2, h3, h4, h5, h6, e1]
theorem alike_tup {n : Nat} {xs : List PyData} {R : Ev.Row} (hd : dataA xs = true) (hl : xs.length ≤ 1000000) (ih : ∀ x ∈ xs, F__law_alike n [x, x] R = .ok (.bool true) R) : F__law_alike (n + 1) [.tuple xs, .tuple xs] R = .ok (.bool true) R := by
  have hne : neD (.int (xs.length : Int)) (.int (xs.length : Int)) = some (.bool false) := by simp [neD, shp, PyData.eqv]
  have heq : eqD (.list []) (.list []) = some (.bool true) := by simp [eqD, shp, PyData.eqv, PyData.eqvAll]
  unfold F__law_alike den__law_alike
  simp [callF_def, isiD, isTy, dataD, PyData.isTuple, hd, hne, rng1_s (j := (xs.length : Int)) (by omega) (by omega)]
  rw [compM_nil fun d hk => ?_]
  · simp [heq]
  · obtain ⟨k, hk, rfl⟩ := mem_rangeL.mp hk
    obtain ⟨x, e, m, _⟩ := atI_lt (xs := xs) (i := 0 + (k : Int)) (by omega) (by omega)
    simp at e
    simp [e, ih x m]
theorem alike_true (n : Nat) : ∀ (d : PyData) (R : Ev.Row), plainD n d = true → F__law_alike n [d, d] R = .ok (.bool true) R := by
  induction n with
  | zero => intro d R h; simp [plainD] at h
  | succ n ih =>
    intro d R h
    have hd := plain_data h
    cases d with
    | tuple xs =>
      simp only [plainD, Bool.and_eq_true, List.all_eq_true, decide_eq_true_eq] at h
      exact alike_tup hd h.2 fun x hx => ih x R (h.1 x hx)
    | list xs => simp [plainD] at h
    | dict xs => simp [plainD] at h
    | none => exact alike_leaf rfl rfl rfl (.inl rfl)
    | str x =>
      have h' : PyData.strOk x = true := h
      exact alike_leaf rfl rfl (by simp [eqD, shp, PyData.eqv, h']) (.inr (.inl rfl))
    | int i => exact alike_leaf rfl rfl (by simp [eqD, shp, PyData.eqv]) (.inr (.inr rfl))
    | bool i => exact alike_leaf rfl rfl (by simp [eqD, shp, PyData.eqv]) (.inr (.inr rfl))
end Sh

/-! Ev: loops by invariants -/
namespace Ev
open PySem PySem.Spec
theorem ends_eq {α : Type} {r : Res α} {X : α} {R : Row} (h : Ends r (fun d R' => d = X ∧ R' = R) FX) : r = .ok X R := by
  cases r with
  | ok a R1 => obtain ⟨rfl, rfl⟩ := h; rfl
  | exc nm R1 => exact h.elim
  | stuck => exact h.elim
theorem forM_ends {α : Type} (enc : α → PyData) {f : PyData → Env → Row → Res Fl} (I : List α → Env → Row → Prop) {l : List α} (hs : ∀ pre d suf ρ R, l = pre ++ d :: suf → I pre ρ R → Ends (f (enc d) ρ R) (fun fl R' => ∃ ρ', fl = .nx ρ' ∧ I (pre ++ [d]) ρ' R') FX) :
    ∀ (pre suf : List α) (ρ : Env) (R : Row), l = pre ++ suf → I pre ρ R → Ends (forM f (suf.map enc) ρ R) (fun fl R' => ∃ ρ', fl = .nx ρ' ∧ I l ρ' R') FX
  | pre, [], ρ, R, e, h => ⟨ρ, rfl, by rw [e, List.append_nil]; exact h⟩
  | pre, d :: suf, ρ, R, e, h => by
    show Ends ((f (enc d) ρ R).bind _) _ _
    refine Ends.step (hs pre d suf ρ R e h) fun fl R' ⟨ρ', e1, h1⟩ => ?_
    subst e1
    exact forM_ends enc I hs (pre ++ [d]) suf ρ' R' (by rw [e, List.append_assoc]; rfl) h1
/-- for d in l: an invariant of what has been seen -/
theorem for_inv {α : Type} (enc : α → PyData) {f : PyData → Env → Row → Res Fl} (I : List α → Env → Row → Prop) {l : List α} {ρ : Env} {R : Row} (h0 : I [] ρ R) (hs : ∀ pre d suf ρ R, l = pre ++ d :: suf → I pre ρ R → Ends (f (enc d) ρ R) (fun fl R' => ∃ ρ', fl = .nx ρ' ∧ I (pre ++ [d]) ρ' R') FX) :
    Ends (forM f (l.map enc) ρ R) (fun fl R' => ∃ ρ', fl = .nx ρ' ∧ I l ρ' R') FX := forM_ends enc I hs [] l ρ R rfl h0
/-- for i in range(lo, lo + n) -/
theorem for_range {f : PyData → Env → Row → Res Fl} {lo : Int} {n : Nat} {ρ : Env} {R : Row} (I : Nat → Env → Row → Prop) (h0 : I 0 ρ R) (hs : ∀ k ρ R, k < n → I k ρ R → Ends (f (.int (lo + (k : Int))) ρ R) (fun fl R' => ∃ ρ', fl = .nx ρ' ∧ I (k + 1) ρ' R') FX) :
    Ends (forM f (rangeL lo n) ρ R) (fun fl R' => ∃ ρ', fl = .nx ρ' ∧ I n ρ' R') FX := by
  have h := for_inv (l := List.range n) (fun k : Nat => PyData.int (lo + (k : Int))) (f := f) (fun pre ρ R => I pre.length ρ R) (ρ := ρ) (R := R) h0 fun pre d suf ρ R e h => ?_
  · rw [List.length_range] at h
    exact h
  · have hl : pre.length < n := by
      have := congrArg List.length e
      rw [List.length_range, List.length_append, List.length_cons] at this
      omega
    have hd : d = pre.length := by
      have h1 : (List.range n)[pre.length]? = some d := by rw [e]; simp
      rw [List.getElem?_range hl] at h1
      exact (Option.some.inj h1).symm
    subst hd
    rw [List.length_append]
    exact hs _ ρ R hl h
/-- a comprehension whose turns draw -/
theorem comp_draw {α : Type} (enc : α → PyData) {f : PyData → Row → Res (List PyData)} (I : Row → Prop) (P : PyData → Prop) : ∀ {l : List α} {R : Row}, I R → (∀ d ∈ l, ∀ R, I R → Ends (f (enc d) R) (fun o R' => ∃ x, o = [x] ∧ P x ∧ I R') FX) →
    Ends (compM f (l.map enc) R) (fun o R' => o.length = l.length ∧ (∀ x ∈ o, P x) ∧ I R') FX
  | [], R, h, _ => ⟨rfl, (fun x hx => by simp at hx), h⟩
  | d :: l, R, h, hs => by
    have h1 := hs d List.mem_cons_self R h
    show Ends (compM f (enc d :: l.map enc) R) _ _
    unfold compM
    cases hr : f (enc d) R with
    | stuck => rw [hr] at h1; exact h1.elim
    | exc nm R1 => rw [hr] at h1; exact h1.elim
    | ok o R1 =>
      rw [hr] at h1
      obtain ⟨x, rfl, hx, hI⟩ := h1
      refine Ends.step (comp_draw enc I P hI fun d' hd => hs d' (List.mem_cons_of_mem _ hd)) fun o2 R2 ⟨e1, e2, e3⟩ => ?_
      refine ⟨by simp [e1], fun y hy => ?_, e3⟩
      rcases List.mem_append.mp hy with hy | hy
      · rw [List.mem_singleton.mp hy]; exact hx
      · exact e2 y hy
theorem rangeL_map {lo : Int} {n : Nat} : rangeL lo n = (List.range n).map fun k : Nat => PyData.int (lo + (k : Int)) := rfl
theorem snoc_ind {α : Type} {P : List α → Prop} (h0 : P []) (hs : ∀ l a, P l → P (l ++ [a])) (l : List α) : P l := by
  have h : ∀ m : List α, P m.reverse := fun m => by
    induction m with
    | nil => exact h0
    | cons a m ih => rw [List.reverse_cons]; exact hs _ a ih
  have := h l.reverse
  rw [List.reverse_reverse] at this
  exact this
theorem snoc_eq {α : Type} {l pre suf : List α} {a : α} (e : l = pre ++ a :: suf) : l = (pre ++ [a]) ++ suf := by rw [e, List.append_assoc]; rfl
@[simp] theorem atI_zero {α : Type} {a : α} {l : List α} : L2.atI (a :: l) 0 = some a := by
  unfold L2.atI L2.ixN
  rw [if_pos (by decide), if_pos (by rw [List.length_cons]; omega)]
  rfl
@[simp] theorem atI_one {α : Type} {a b : α} {l : List α} : L2.atI (a :: b :: l) 1 = some b := by
  unfold L2.atI L2.ixN
  rw [if_pos (by decide), if_pos (by rw [List.length_cons, List.length_cons]; omega)]
  rfl
@[simp] theorem atI_two {α : Type} {a b c : α} {l : List α} : L2.atI (a :: b :: c :: l) 2 = some c := by
  unfold L2.atI L2.ixN
  rw [if_pos (by decide), if_pos (by rw [List.length_cons, List.length_cons, List.length_cons]; omega)]
  rfl
theorem atI_nat {α : Type} {l : List α} {i : Nat} (h : i < l.length) : L2.atI l (i : Int) = some (l[i]'h) := by
  unfold L2.atI L2.ixN
  rw [if_pos (by omega), if_pos (by omega)]
  show l[((i : Nat) : Int).toNat]? = _
  rw [Int.toNat_natCast]
  exact List.getElem?_eq_getElem h
theorem atI_map {α β : Type} {f : α → β} {l : List α} {i : Nat} (h : i < l.length) : L2.atI (l.map f) (i : Int) = some (f (l[i]'h)) := by
  rw [atI_nat (by rw [List.length_map]; exact h), List.getElem_map]
theorem range_zip {α β γ : Type} {F : α → β → γ} (da : α) (db : β) (xs : List α) (ys : List β) (h : xs.length = ys.length) : (List.range xs.length).map (fun i => F (xs[i]?.getD da) (ys[i]?.getD db)) = List.zipWith F xs ys := by
  apply List.ext_getElem
  · simp [h]
  · intro i h1 h2
    rw [List.getElem_map, List.getElem_range, List.getElem_zipWith]
    have a : i < xs.length := by rw [List.length_map, List.length_range] at h1; exact h1
    rw [List.getElem?_eq_getElem a, List.getElem?_eq_getElem (h ▸ a)]
    rfl
theorem flat_one {α β : Type} (f : α → β) : ∀ l : List α, (l.flatMap fun x => [f x]) = l.map f
  | [] => rfl
  | a :: l => by rw [List.flatMap_cons, flat_one f l]; rfl
theorem flat_if {α β : Type} (p : α → Bool) (f : α → β) : ∀ l : List α, (l.flatMap fun x => if p x then [f x] else []) = (l.filter p).map f
  | [] => rfl
  | a :: l => by rw [List.flatMap_cons, flat_if p f l, List.filter_cons]; split <;> rfl
@[simp] theorem ints_all {α : Type} (f : α → Int) (l : List α) : (l.map fun x => PyData.int (f x)).all isInt = true := by simp [isInt]
@[simp] theorem ints_all' (l : List Int) : (l.map PyData.int).all isInt = true := by simp [isInt]
@[simp] theorem ints_of (l : List Int) : (l.map PyData.int).map intOf = l := by rw [List.map_map]; exact List.map_id'' (fun _ => rfl) l
theorem zw_map {α β γ : Type} (F : α → β → γ) : ∀ (xs : List α) (ys : List β), List.zipWith F xs ys = (xs.zip ys).map fun p => F p.1 p.2
  | [], _ => by simp
  | _ :: _, [] => by simp
  | a :: xs, b :: ys => by simp [zw_map F xs ys]
@[simp] theorem eqD_i {a b : Int} : eqD (.int a) (.int b) = some (.bool (decide (a = b))) := by
  simp [eqD, PyData.eqv]
  rfl
@[simp] theorem neD_i {a b : Int} : neD (.int a) (.int b) = some (.bool (!decide (a = b))) := by
  simp [neD, PyData.eqv]
  rfl
@[simp] theorem sz_1 : 1 ≤ sizeLine := small_sz (by decide)
@[simp] theorem sz_2 : 2 ≤ sizeLine := small_sz (by decide)
@[simp] theorem sz_3 : 3 ≤ sizeLine := small_sz (by decide)
@[simp] theorem sz_4 : 4 ≤ sizeLine := small_sz (by decide)
@[simp] theorem sz_5 : 5 ≤ sizeLine := small_sz (by decide)
@[simp] theorem sz_6 : 6 ≤ sizeLine := small_sz (by decide)
@[simp] theorem sz_7 : 7 ≤ sizeLine := small_sz (by decide)
@[simp] theorem sz_8 : 8 ≤ sizeLine := small_sz (by decide)
@[simp] theorem sz_9 : 9 ≤ sizeLine := small_sz (by decide)
@[simp] theorem sz_10 : 10 ≤ sizeLine := small_sz (by decide)
@[simp] theorem sz_11 : 11 ≤ sizeLine := small_sz (by decide)
@[simp] theorem sz_12 : 12 ≤ sizeLine := small_sz (by decide)
@[simp] theorem sz_13 : 13 ≤ sizeLine := small_sz (by decide)
@[simp] theorem sz_14 : 14 ≤ sizeLine := small_sz (by decide)
@[simp] theorem sz_15 : 15 ≤ sizeLine := small_sz (by decide)
@[simp] theorem sz_16 : 16 ≤ sizeLine := small_sz (by decide)
end Ev

/-! Ev: the order of rows of ints -/
namespace Ev
open PySem PySem.Spec
theorem eqv_ints : ∀ xs ys : List Int, PyData.eqvAll (xs.map PyData.int) (ys.map PyData.int) = decide (xs = ys)
  | [], [] => by simp [PyData.eqvAll]
  | [], _ :: _ => by simp [PyData.eqvAll]
  | _ :: _, [] => by simp [PyData.eqvAll]
  | a :: xs, b :: ys => by
    rw [List.map_cons, List.map_cons, PyData.eqvAll, eqv_ints xs ys, PyData.eqv]
    by_cases h : a = b <;> by_cases h2 : xs = ys <;> simp [h, h2]
theorem eqv_row (xs ys : List Int) : PyData.eqv (.tuple (xs.map PyData.int)) (.tuple (ys.map PyData.int)) = decide (xs = ys) := by
  rw [PyData.eqv]
  exact eqv_ints xs ys
theorem lt_row (xs ys : List Int) : PySem.W.dataLt (.tuple (xs.map PyData.int)) (.tuple (ys.map PyData.int)) = decide (xs < ys) := by
  rw [PySem.W.dataLt_tuple]
  exact PySem.W.dataLt_ints xs ys
theorem alike_ints : ∀ xs ys : List Int, PySem.W.alikeAll (xs.map PyData.int) (ys.map PyData.int) = true
  | [], _ => by simp [PySem.W.alikeAll]
  | _ :: _, [] => by simp [PySem.W.alikeAll]
  | a :: xs, b :: ys => by
    rw [List.map_cons, List.map_cons, PySem.W.alikeAll, alike_ints xs ys, PySem.W.alike]
    rfl
/-- (s, xs) ahead of (t, ys) -/
def keyLt (s : Int) (xs : List Int) (t : Int) (ys : List Int) : Prop := s < t ∨ (s = t ∧ xs < ys)
instance (s : Int) (xs : List Int) (t : Int) (ys : List Int) : Decidable (keyLt s xs t ys) := inferInstanceAs (Decidable (_ ∨ _))
theorem lt_key (s t : Int) (xs ys : List Int) : PySem.W.dataLt (.tuple [.int s, .tuple (xs.map PyData.int)]) (.tuple [.int t, .tuple (ys.map PyData.int)]) = decide (keyLt s xs t ys) := by
  rw [PySem.W.dataLt_pair rfl (by rw [PySem.W.alike]; exact alike_ints xs ys), eqv_row, lt_row, PySem.W.dataLt_int, PyData.eqv]
  unfold keyLt
  by_cases h : s = t
  · subst h
    by_cases h2 : xs = ys
    · subst h2
      simp [List.lt_irrefl]
    · simp [h2]
  · simp [h]
theorem row_app {xs ys : List Int} (h : xs.length = ys.length) (t : Int) : xs ++ [t] < ys ++ [t] ↔ xs < ys := by
  induction xs generalizing ys with
  | nil =>
    cases ys with
    | nil => simp [List.lt_irrefl]
    | cons b ys => simp at h
  | cons a xs ih =>
    cases ys with
    | nil => simp at h
    | cons b ys =>
      have h : xs.length = ys.length := by simpa using h
      rw [List.cons_append, List.cons_append, List.cons_lt_cons_iff, List.cons_lt_cons_iff, ih h]
theorem keyLt_irr (s : Int) (xs : List Int) : ¬ keyLt s xs s xs := by
  unfold keyLt
  intro h
  rcases h with h | h
  · omega
  · exact List.lt_irrefl _ h.2
theorem keyLt_trans {s t u : Int} {xs ys zs : List Int} (h : keyLt s xs t ys) (h2 : keyLt t ys u zs) : keyLt s xs u zs := by
  unfold keyLt at *
  rcases h with h | ⟨h, h'⟩ <;> rcases h2 with h2 | ⟨h2, h2'⟩
  · exact .inl (by omega)
  · exact .inl (by omega)
  · exact .inl (by omega)
  · exact .inr ⟨by omega, List.lt_trans h' h2'⟩
theorem keyLt_tot {s t : Int} {xs ys : List Int} (h : ¬ keyLt s xs t ys) (h2 : ¬ keyLt t ys s xs) : s = t ∧ xs = ys := by
  unfold keyLt at *
  have e : s = t := by omega
  refine ⟨e, ?_⟩
  have a : ¬ xs < ys := fun z => h (.inr ⟨e, z⟩)
  have b : ¬ ys < xs := fun z => h2 (.inr ⟨e.symm, z⟩)
  exact List.le_antisymm (List.not_lt.mp b) (List.not_lt.mp a)
/-! ### dicts of int keys -/
def encD {α : Type} (v : α → PyData) (D : List (Int × α)) : List (PyData × PyData) := D.map fun p => (.int p.1, v p.2)
section
variable {α : Type} {v : α → PyData} {D : List (Int × α)} {t : Int}
theorem keq_i {a b : Int} : keq (.int a) (.int b) = decide (a = b) := by
  unfold keq toKey
  simp
@[simp] theorem kin_enc : kinOk (encD v D) (.int t) = true := by
  unfold kinOk encD
  simp [toKey]
theorem dget_enc : dget (encD v D) (.int t) = (D.find? fun p => decide (p.1 = t)).map fun p => v p.2 := by
  unfold dget encD
  rw [List.find?_map, Option.map_map]
  simp only [Function.comp_def, keq_i]
def putD (D : List (Int × α)) (t : Int) (a : α) : List (Int × α) := if D.any (fun p => decide (p.1 = t)) = true then D.map (fun p => if p.1 = t then (p.1, a) else p) else D ++ [(t, a)]
theorem dput_enc {a : α} : dput (encD v D) (.int t) (v a) = encD v (putD D t a) := by
  unfold dput putD encD
  rw [List.any_map]
  simp only [Function.comp_def, keq_i]
  split
  · rw [List.map_map, List.map_map]
    apply List.map_congr_left
    intro p _
    simp only [Function.comp_def, keq_i, decide_eq_true_eq]
    split <;> rfl
  · rw [List.map_append]
    rfl
theorem keys_enc : (encD v D).map (·.1) = D.map fun p => PyData.int p.1 := by
  unfold encD
  rw [List.map_map]
  rfl
theorem keysD_enc : keysD (.dict (encD v D)) = some (D.map fun p => PyData.int p.1) := by
  show (if ((encD v D).all fun p => (toKey p.1).isSome) = true then some ((encD v D).map (·.1)) else none) = _
  rw [if_pos (by simp [encD, toKey]), keys_enc]
theorem mem_putD (nd : (D.map (·.1)).Nodup) {a : α} {q : Int × α} : q ∈ putD D t a ↔ q = (t, a) ∨ (q ∈ D ∧ q.1 ≠ t) := by
  unfold putD
  by_cases h : D.any (fun p => decide (p.1 = t)) = true
  · rw [if_pos h]
    simp only [List.mem_map]
    obtain ⟨p0, hp0, e0⟩ := List.any_eq_true.mp h
    have e0 := of_decide_eq_true e0
    constructor
    · rintro ⟨p, hp, rfl⟩
      by_cases e : p.1 = t
      · rw [if_pos e, e]; exact .inl rfl
      · rw [if_neg e]; exact .inr ⟨hp, e⟩
    · rintro (rfl | ⟨hq, hn⟩)
      · exact ⟨p0, hp0, by rw [if_pos e0, e0]⟩
      · exact ⟨q, hq, by rw [if_neg hn]⟩
  · rw [if_neg h]
    have hn : ∀ p ∈ D, p.1 ≠ t := fun p hp e => h (List.any_eq_true.mpr ⟨p, hp, decide_eq_true e⟩)
    rw [List.mem_append, List.mem_singleton]
    constructor
    · rintro (hq | rfl)
      · exact .inr ⟨hq, hn q hq⟩
      · exact .inl rfl
    · rintro (rfl | ⟨hq, _⟩)
      · exact .inr rfl
      · exact .inl hq
theorem nd_putD (nd : (D.map (·.1)).Nodup) {a : α} : ((putD D t a).map (·.1)).Nodup := by
  unfold putD
  split
  · rw [List.map_map]
    have e : ((fun p : Int × α => p.1) ∘ fun p => if p.1 = t then (p.1, a) else p) = fun p => p.1 := by
      funext p
      simp only [Function.comp_def]
      split <;> rfl
    rw [e]
    exact nd
  · rename_i h
    rw [List.map_append, List.nodup_append]
    refine ⟨nd, by simp, fun x hx y hy e => ?_⟩
    obtain ⟨p, hp, rfl⟩ := List.mem_map.mp hx
    simp at hy
    exact h (List.any_eq_true.mpr ⟨p, hp, decide_eq_true (e.trans hy)⟩)
theorem find_enc (nd : (D.map (·.1)).Nodup) {a : α} (h : (t, a) ∈ D) : (D.find? fun p => decide (p.1 = t)) = some (t, a) := by
  induction D with
  | nil => simp at h
  | cons p D ih =>
    rw [List.map_cons, List.nodup_cons] at nd
    rw [List.find?_cons]
    rcases List.mem_cons.mp h with e | h
    · rw [← e]; simp
    · have hne : p.1 ≠ t := fun e => nd.1 (List.mem_map.mpr ⟨(t, a), h, e.symm⟩)
      rw [decide_eq_false hne]
      exact ih nd.2 h
theorem find_no : (D.find? fun p => decide (p.1 = t)) = none ↔ ∀ p ∈ D, p.1 ≠ t := by
  rw [List.find?_eq_none]
  simp
end
theorem len_putD {α : Type} {D : List (Int × α)} {t : Int} {a : α} : (putD D t a).length ≤ D.length + 1 := by
  unfold putD
  split
  · rw [List.length_map]; omega
  · rw [List.length_append]; simp
@[simp] theorem sForK_ap {ks : List Nat} {i : Nat} {t : Tgt} {s : DenS} {ρ : Env} {R : Row} : sForK ks i t s ρ R = if i ∈ ks then .stuck else (ofO ((valAt ρ i).bind keysD) R).bind fun ds R1 => noX (forM (turnF t s) ds ρ R1) := eqr rfl
theorem Ends.to_noX {α : Type} {r : Res α} {ok : α → Row → Prop} {ex : Str → Row → Prop} (h : Ends r ok FX) : Ends (Ev.noX r) ok ex := by
  cases r with
  | ok a R => exact h
  | exc n R => exact h.elim
  | stuck => exact h
theorem Ends.stepX {α β : Type} {r : Res α} {f : α → Row → Res β} {P : α → Row → Prop} {ok : β → Row → Prop} {ex : Str → Row → Prop} (h : Ends r P FX) (k : ∀ a R, P a R → Ends (f a R) ok ex) : Ends ((Ev.noX r).bind f) ok ex := Ends.step (Ends.to_noX h) k
theorem idx_enc {α : Type} {v : α → PyData} {D : List (Int × α)} {t : Int} {a : α} (nd : (D.map (·.1)).Nodup) (h : (t, a) ∈ D) : idxD (.dict (encD v D)) (.int t) = some (v a) := by
  rw [idxD_d, if_pos kin_enc, dget_enc, find_enc nd h]
  rfl
theorem in_enc {α : Type} {v : α → PyData} {D : List (Int × α)} {t : Int} : inD (.int t) (.dict (encD v D)) = some (D.find? fun p => decide (p.1 = t)).isSome := by
  show (if kinOk (encD v D) (.int t) = true then some (dget (encD v D) (.int t)).isSome else none) = _
  rw [if_pos kin_enc, dget_enc, Option.isSome_map]
theorem set_enc {α : Type} {v : α → PyData} {D : List (Int × α)} {t : Int} {a : α} (h : D.length < sizeLine) : setD (.dict (encD v D)) (.int t) (v a) = some (.dict (encD v (putD D t a))) := by
  rw [setD_d, kin_enc, dput_enc]
  have e : (encD v D).length = D.length := by unfold encD; simp
  rw [e, decide_eq_true h]
  rfl
theorem ends_of {α : Type} {r : Res α} {X : α} {R : Row} {ok : α → Row → Prop} {ex : Str → Row → Prop} (h : r = .ok X R) (k : ok X R) : Ends r ok ex := by rw [h]; exact k
end Ev

/-! Ev: several names at once -/
namespace Ev
open PySem PySem.Spec PyProof.Rows L2
section
variable {K : PySem.W.Frag} {c : Cfg} {a0 : Addr} {S : List Addr} {H0 Vi H H' : Hp} {A : List (Nat × Addr)} {O O' : List Nat} {ρ ρ' : Env} {R R' : Row} {σ σ' : L2.St}
theorem StA.ownN (st : StA K c a0 S H0 Vi A ρ R σ H) (w1 : Wd K c a0 S H H' R') (N : List (Nat × Addr)) (hN1 : (N.map (·.1)).Nodup) (hN2 : (N.map (·.2)).Nodup) (hf : ∀ q ∈ N, Fr H q.2) {is : List Nat} (hNi : ∀ q ∈ N, q.1 ∈ is)
    (l1 : ρ'.length = ρ.length) (k1 : ∀ i, i ∉ is → ρ'[i]? = ρ[i]?) (l2 : σ'.length = σ.length) (k2 : ∀ i, i ∉ is → σ'[i]? = σ[i]?)
    (ho : ∀ q ∈ N, σ'[q.1]? = some (some (.ref q.2)) ∧ ∃ d, ρ'[q.1]? = some (some d) ∧ OwnAt K a0 (hide H' (N.map (·.2) ++ (A.map (·.2) ++ S))) H' q.2 d)
    (hr : ∀ i ∈ is, i ∉ N.map (·.1) → ∀ d', ρ'[i]? = some (some d') → ∃ v', σ'[i]? = some (some v') ∧ Rep K a0 (hide H' (N.map (·.2) ++ (A.map (·.2) ++ S))) v' d') :
    StA K c a0 S H0 Vi (N ++ A.filter fun q => decide (q.1 ∉ is)) ρ' R' σ' H' := by
  have sd := (st.on w1).drop fun q => decide (q.1 ∉ is)
  have sd0 := st.drop fun q => decide (q.1 ∉ is)
  have nA : ∀ q ∈ N, q.2 ∉ A.map (·.2) := fun q hq z => by
    obtain ⟨o, e, n, _⟩ := st.as q.2 z
    exact hf q hq o e n
  have nS : ∀ q ∈ N, q.2 ∉ S := fun q hq z => by
    obtain ⟨o, e, n⟩ := st.w.here.sS q.2 z
    exact hf q hq o e n
  have f0 : ∀ q ∈ N, Fr H0 q.2 := fun q hq o e n => by
    by_cases ea : q.2 = a0
    · exact nS q hq (by rw [ea]; exact st.w.a0S)
    · exact hf q hq o (st.w.gr q.2 o ea e n) n
  have mapeq : (N ++ A.filter fun q => decide (q.1 ∉ is)).map (·.2) ++ S = N.map (·.2) ++ ((A.filter fun q => decide (q.1 ∉ is)).map (·.2) ++ S) := by rw [List.map_append, List.append_assoc]
  have more : Sub (hide H' (N.map (·.2) ++ (A.map (·.2) ++ S))) (hide H' ((N ++ A.filter fun q => decide (q.1 ∉ is)).map (·.2) ++ S)) := hide_more fun b hb => by
    rw [mapeq] at hb
    rcases List.mem_append.mp hb with hb | hb
    · exact List.mem_append_left _ hb
    · rcases List.mem_append.mp hb with hb | hb
      · obtain ⟨q, hq, rfl⟩ := List.mem_map.mp hb
        exact List.mem_append_right _ (List.mem_append_left _ (List.mem_map.mpr ⟨q, (List.mem_filter.mp hq).1, rfl⟩))
      · exact List.mem_append_right _ (List.mem_append_right _ hb)
  have sub : Sub (hide H ((A.filter fun q => decide (q.1 ∉ is)).map (·.2) ++ S)) (hide H' ((N ++ A.filter fun q => decide (q.1 ∉ is)).map (·.2) ++ S)) := fun b o h n => by
    obtain ⟨nb, h⟩ := of_hide h
    rw [mapeq, hide_out (fun z => by
      rcases List.mem_append.mp z with z | z
      · obtain ⟨q, hq, e⟩ := List.mem_map.mp z
        exact hf q hq o (by rw [show q.2 = b from e]; exact h) n
      · exact nb z)]
    exact w1.gr b o (fun z => nb (by rw [z]; exact List.mem_append_right _ st.w.a0S)) h n
  refine ⟨sd.w, ?_, ?_, fun q hq => ?_, by rw [l1, l2, st.len], fun j e h hj => ?_, sd0.vis.trans sub⟩
  · rw [List.map_append, List.nodup_append]
    refine ⟨hN1, sd.nd1, fun a ha b hb e => ?_⟩
    subst e
    obtain ⟨q, hq, e⟩ := List.mem_map.mp ha
    obtain ⟨q', hq', e'⟩ := List.mem_map.mp hb
    have n := of_decide_eq_true (List.mem_filter.mp hq').2
    exact n (by rw [e', ← e]; exact hNi q hq)
  · rw [List.map_append, List.nodup_append]
    refine ⟨hN2, sd.nd2, fun a ha b hb e => ?_⟩
    subst e
    obtain ⟨q, hq, e⟩ := List.mem_map.mp ha
    obtain ⟨q', hq', e'⟩ := List.mem_map.mp hb
    exact nA q hq (List.mem_map.mpr ⟨q', (List.mem_filter.mp hq').1, e'.trans e.symm⟩)
  · rcases List.mem_append.mp hq with hq | hq
    · obtain ⟨e1, d, e2, h⟩ := ho q hq
      exact ⟨f0 q hq, e1, d, e2, h.mono more fun o e _ => e⟩
    · obtain ⟨f, e1, d', e2, h'⟩ := sd0.own q hq
      have n := of_decide_eq_true (List.mem_filter.mp hq).2
      refine ⟨f, by rw [k2 _ n]; exact e1, d', by rw [k1 _ n]; exact e2, ?_⟩
      exact h'.mono sub fun o e n => w1.gr q.2 o (fun z => sd0.notS hq (by rw [z]; exact st.w.a0S)) e n
  · by_cases hi : j ∈ is
    · have hn : j ∉ N.map (·.1) := fun z => hj (by rw [List.map_append]; exact List.mem_append_left _ z)
      obtain ⟨v', e', r⟩ := hr j hi hn e h
      exact ⟨v', e', r.mono more⟩
    · rw [k1 j hi] at h
      rw [k2 j hi]
      obtain ⟨v, e1, r⟩ := sd0.rest j e h fun z => hj (by rw [List.map_append]; exact List.mem_append_right _ z)
      exact ⟨v, e1, r.mono sub⟩
end
/-- things one after another, some of them new -/
inductive Mix (K : PySem.W.Frag) (a0 : Addr) (Hv H' : Hp) : List Nat → List Bool → List V → List PyData → List (Nat × Addr) → Prop
  | nil : Mix K a0 Hv H' [] [] [] [] []
  | old {i is v d ks vs ds N} : Rep K a0 Hv v d → Mix K a0 Hv H' is ks vs ds N → Mix K a0 Hv H' (i :: is) (false :: ks) (v :: vs) (d :: ds) N
  | new {i is p d ks vs ds N} : OwnAt K a0 Hv H' p d → Mix K a0 Hv H' is ks vs ds N → Mix K a0 Hv H' (i :: is) (true :: ks) (.ref p :: vs) (d :: ds) ((i, p) :: N)
theorem Mix.mono {K : PySem.W.Frag} {a0 : Addr} {Hv H' Hv2 H2 : Hp} (s : Sub Hv Hv2) (g : ∀ p d, OwnAt K a0 Hv H' p d → OwnAt K a0 Hv2 H2 p d) : ∀ {is ks vs ds N}, Mix K a0 Hv H' is ks vs ds N → Mix K a0 Hv2 H2 is ks vs ds N
  | _, _, _, _, _, .nil => .nil
  | _, _, _, _, _, .old r m => .old (r.mono s) (m.mono s g)
  | _, _, _, _, _, .new o m => .new (g _ _ o) (m.mono s g)
theorem Mix.slots {K : PySem.W.Frag} {a0 : Addr} {Hv H' : Hp} : ∀ {is ks vs ds N}, Mix K a0 Hv H' is ks vs ds N → ∀ q ∈ N, q.1 ∈ is
  | _, _, _, _, _, .nil, q, h => by cases h
  | _, _, _, _, _, .old r m, q, h => List.mem_cons_of_mem _ (m.slots q h)
  | _, _, _, _, _, .new o m, q, h => by
    rcases List.mem_cons.mp h with e | h
    · rw [e]; exact List.mem_cons_self
    · exact List.mem_cons_of_mem _ (m.slots q h)
theorem Mix.lens {K : PySem.W.Frag} {a0 : Addr} {Hv H' : Hp} : ∀ {is ks vs ds N}, Mix K a0 Hv H' is ks vs ds N → vs.length = is.length ∧ ds.length = is.length
  | _, _, _, _, _, .nil => ⟨rfl, rfl⟩
  | _, _, _, _, _, .old r m => ⟨by simp [m.lens.1], by simp [m.lens.2]⟩
  | _, _, _, _, _, .new r m => ⟨by simp [m.lens.1], by simp [m.lens.2]⟩
def tDX (K : PySem.W.Frag) (c : Cfg) (E : XK) (is : List Nat) (ks : List Bool) (den : DenL) : TA := fun σ H Q => ∃ a0 S ρ R, Wd K c a0 S H H R ∧ EnvR K a0 (hide H S) ρ σ ∧
  Ends (den ρ R) (fun ds R' => ∀ vs N H', Wd K c a0 S H H' R' → (N.map (·.2)).Nodup → (∀ q ∈ N, Fr H q.2) → Mix K a0 (hide H' (N.map (·.2) ++ S)) H' is ks vs ds N → Q vs H') (Ex K c E a0 S H)
def DXs (X : Cx) (c : Cfg) (E : XK) (is : List Nat) (ks : List Bool) (es : List Expr) (den : DenL) : Prop := PA X es (tDX X.K c E is ks den)
section
variable {X : Cx} {c : Cfg} {E : XK} {OL O O1 O2 O' : List Nat} {pos : Pos}
theorem dxs_nil : DXs X c E [] [] [] lNil := PA.imp pa_nil fun σ H Q ⟨a0, S, ρ, R, w, en, p⟩ => p _ [] _ w List.nodup_nil (fun _ h => by cases h) .nil
theorem Fr.back {K : PySem.W.Frag} {a0 : Addr} {S : List Addr} {H H1 : Hp} {R : Row} {p : Addr} (w : Wd K c a0 S H H1 R) (f : Fr H1 p) : Fr H p := fun o e n => by
  by_cases ea : p = a0
  · obtain ⟨sc, h1, _⟩ := w.row
    exact f _ (by rw [ea]; exact h1) nt_lst
  · exact f o (w.gr p o ea e n) n
theorem new_out {K : PySem.W.Frag} {a0 : Addr} {S : List Addr} {H H1 H2 : Hp} {R : Row} {N : List (Nat × Addr)} (w : Wd K c a0 S H1 H2 R) (f : ∀ q ∈ N, Fr H1 q.2) : Sub (hide H1 S) (hide H2 (N.map (·.2) ++ S)) := fun b o h n => by
  obtain ⟨nb, h⟩ := of_hide h
  rw [hide_out (fun z => by
    rcases List.mem_append.mp z with z | z
    · obtain ⟨q, hq, e⟩ := List.mem_map.mp z
      exact f q hq o (by rw [show q.2 = b from e]; exact h) n
    · exact nb z)]
  exact w.gr b o (fun z => nb (by rw [z]; exact w.a0S)) h n
theorem dxs_old {i : Nat} {is : List Nat} {ks : List Bool} {e : Expr} {es : List Expr} {d : Den} {r : DenL} (h : DE X c E e d) (hr : DXs X c E is ks es r) (hs : starEach (e :: es) X.env = (false, eval e X.env) :: starEach es X.env := by rfl) : DXs X c E (i :: is) (false :: ks) (e :: es) (lCons d r) :=
  PA.imp (pa_cons h hr hs) fun σ H Q ⟨a0, S, ρ, R, w, en, p⟩ => tD_of w en (ends_next p fun x R1 p v H1 w1 r1 =>
    ⟨a0, S, ρ, R1, w1.here, en.mono w1.sub, ends_back w1 (ends_next p fun y R2 p => p) fun y R2 p vs N H2 w2 nd f m =>
      p (v :: vs) N H2 (w1.trans w2) nd (fun q hq => (f q hq).back w1) (.old (r1.mono (new_out (H := H) w2 f)) m)⟩)
theorem dxs_new {i : Nat} {is : List Nat} {ks : List Bool} {e : Expr} {es : List Expr} {d : Den} {r : DenL} (h : DF X c E e d) (hr : DXs X c E is ks es r) (hs : starEach (e :: es) X.env = (false, eval e X.env) :: starEach es X.env := by rfl) : DXs X c E (i :: is) (true :: ks) (e :: es) (lCons d r) :=
  PA.imp (pa_cons h hr hs) fun σ H Q ⟨a0, S, ρ, R, w, en, p⟩ => ⟨a0, S, ρ, R, w, en, ends_next p fun x R1 p p1 H1 f1 w1 o1 => by
    obtain ⟨ob, eo, no, _⟩ := o1.obj
    have w1s : Wd X.K c a0 (p1 :: S) H1 H1 R1 := w1.here.add eo no
    have pS : p1 ∉ S := fun z => by
      obtain ⟨o, e, n⟩ := w.sS p1 z
      exact f1 o e n
    have s1 : Sub (hide H S) (hide H1 (p1 :: S)) := fun b o h n => by
      obtain ⟨nb, h⟩ := of_hide h
      rw [hide_out (fun z => by
        rcases List.mem_cons.mp z with z | z
        · exact f1 o (by rw [← z]; exact h) n
        · exact nb z)]
      exact w1.gr b o (fun z => nb (by rw [z]; exact w1.a0S)) h n
    refine ⟨a0, p1 :: S, ρ, R1, w1s, en.mono s1, (Ends.bind p).mono (fun y R2 p vs N H2 w2 nd f m => ?_) fun nm R2 x dx H' w' e => x dx H' (w1.trans (w'.less (fun b hb => List.mem_cons_of_mem _ hb) w1.a0S)) e⟩
    have pN : p1 ∉ N.map (·.2) := fun z => by
      obtain ⟨q, hq, e⟩ := List.mem_map.mp z
      exact f q hq ob (by rw [show q.2 = p1 from e]; exact eo) no
    have w2' : Wd X.K c a0 S H1 H2 R2 := w2.less (fun b hb => List.mem_cons_of_mem _ hb) w1.a0S
    have hs2 : Sub (hide H2 (N.map (·.2) ++ (p1 :: S))) (hide H2 (((i, p1) :: N).map (·.2) ++ S)) := hide_more fun b hb => by
      rw [List.map_cons, List.cons_append] at hb
      rcases List.mem_cons.mp hb with e | hb
      · rw [e]; exact List.mem_append_right _ List.mem_cons_self
      · rcases List.mem_append.mp hb with hb | hb
        · exact List.mem_append_left _ hb
        · exact List.mem_append_right _ (List.mem_cons_of_mem _ hb)
    refine p (.ref p1 :: vs) ((i, p1) :: N) H2 (w1.trans w2') ?_ (fun q hq => ?_) (.new ?_ (m.mono hs2 fun q dd oo => oo.mono hs2 fun o e _ => e))
    · rw [List.map_cons, List.nodup_cons]
      exact ⟨pN, nd⟩
    · rcases List.mem_cons.mp hq with e | hq
      · rw [e]; exact f1
      · exact (f q hq).back w1
    · refine o1.mono ((new_out (H := H) w2 f).trans hs2) fun o e n => w2.gr p1 o (fun z => pS (by rw [z]; exact w1.a0S)) e n⟩
def setAll : Env → List Nat → List PyData → Env
  | ρ, i :: is, d :: ds => setAll (ρ.set i (some d)) is ds
  | ρ, _, _ => ρ
def setV : L2.St → List Nat → List V → L2.St
  | σ, i :: is, v :: vs => setV (σ.set i (some v)) is vs
  | σ, _, _ => σ
theorem setAll_len : ∀ (is : List Nat) (ds : List PyData) (ρ : Env), (setAll ρ is ds).length = ρ.length
  | [], _, _ => by simp [setAll]
  | _ :: _, [], _ => by simp [setAll]
  | i :: is, d :: ds, ρ => by rw [setAll, setAll_len is ds, List.length_set]
theorem setV_len : ∀ (is : List Nat) (ds : List V) (ρ : L2.St), (setV ρ is ds).length = ρ.length
  | [], _, _ => by simp [setV]
  | _ :: _, [], _ => by simp [setV]
  | i :: is, d :: ds, ρ => by rw [setV, setV_len is ds, List.length_set]
theorem setAll_ne : ∀ (is : List Nat) (ds : List PyData) (ρ : Env) (j : Nat), j ∉ is → (setAll ρ is ds)[j]? = ρ[j]?
  | [], _, _, _, _ => by simp [setAll]
  | _ :: _, [], _, _, _ => by simp [setAll]
  | i :: is, d :: ds, ρ, j, h => by
    rw [setAll, setAll_ne is ds _ j fun z => h (List.mem_cons_of_mem _ z), List.getElem?_set_ne fun z => h (by rw [z]; exact List.mem_cons_self)]
theorem setV_ne : ∀ (is : List Nat) (ds : List V) (ρ : L2.St) (j : Nat), j ∉ is → (setV ρ is ds)[j]? = ρ[j]?
  | [], _, _, _, _ => by simp [setV]
  | _ :: _, [], _, _, _ => by simp [setV]
  | i :: is, d :: ds, ρ, j, h => by
    rw [setV, setV_ne is ds _ j fun z => h (List.mem_cons_of_mem _ z), List.getElem?_set_ne fun z => h (by rw [z]; exact List.mem_cons_self)]
theorem Mix.own {K : PySem.W.Frag} {a0 : Addr} {Hv H' : Hp} : ∀ {is ks vs ds N}, Mix K a0 Hv H' is ks vs ds N → ∀ (ρ : Env) (σ : L2.St), is.Nodup → (∀ i ∈ is, i < ρ.length) → ρ.length = σ.length →
    ∀ q ∈ N, (setV σ is vs)[q.1]? = some (some (.ref q.2)) ∧ ∃ d, (setAll ρ is ds)[q.1]? = some (some d) ∧ OwnAt K a0 Hv H' q.2 d
  | _, _, _, _, _, .nil, _, _, _, _, _, q, h => by cases h
  | _, _, _, _, _, .old (i := i) (d := d) (v := v) r m, ρ, σ, nd, hl, e, q, h => m.own (ρ.set i (some d)) (σ.set i (some v)) (List.nodup_cons.mp nd).2 (fun j hj => by rw [List.length_set]; exact hl j (List.mem_cons_of_mem _ hj)) (by rw [List.length_set, List.length_set]; exact e) q h
  | _, _, _, _, _, .new (i := i) (is := is) (p := p) (d := d) (vs := vs) (ds := ds) o m, ρ, σ, nd, hl, e, q, h => by
    have hi := hl i List.mem_cons_self
    rcases List.mem_cons.mp h with rfl | h
    · refine ⟨?_, d, ?_, o⟩
      · show (setV (σ.set i (some (.ref p))) is vs)[i]? = _
        rw [setV_ne is vs _ i (List.nodup_cons.mp nd).1, List.getElem?_set_self (by rw [← e]; exact hi)]
      · show (setAll (ρ.set i (some d)) is ds)[i]? = _
        rw [setAll_ne is ds _ i (List.nodup_cons.mp nd).1, List.getElem?_set_self hi]
    · exact m.own (ρ.set i (some d)) (σ.set i (some (.ref p))) (List.nodup_cons.mp nd).2 (fun j hj => by rw [List.length_set]; exact hl j (List.mem_cons_of_mem _ hj)) (by rw [List.length_set, List.length_set]; exact e) q h
theorem Mix.rest {K : PySem.W.Frag} {a0 : Addr} {Hv H' : Hp} : ∀ {is ks vs ds N}, Mix K a0 Hv H' is ks vs ds N → ∀ (ρ : Env) (σ : L2.St), is.Nodup → (∀ i ∈ is, i < ρ.length) → ρ.length = σ.length →
    ∀ i ∈ is, i ∉ N.map (·.1) → ∀ d', (setAll ρ is ds)[i]? = some (some d') → ∃ v', (setV σ is vs)[i]? = some (some v') ∧ Rep K a0 Hv v' d'
  | _, _, _, _, _, .nil, _, _, _, _, _, i, h, _ => by cases h
  | _, _, _, _, _, .old (i := i) (is := is) (d := d) (v := v) (vs := vs) (ds := ds) r m, ρ, σ, nd, hl, e, j, h, hn => by
    intro d' hd
    have hi := hl i List.mem_cons_self
    by_cases hj : j ∈ is
    · exact m.rest (ρ.set i (some d)) (σ.set i (some v)) (List.nodup_cons.mp nd).2 (fun j hj => by rw [List.length_set]; exact hl j (List.mem_cons_of_mem _ hj)) (by rw [List.length_set, List.length_set]; exact e) j hj hn d' hd
    · have hji : j = i := by
        rcases List.mem_cons.mp h with h | h
        · exact h
        · exact absurd h hj
      subst hji
      have hd : (setAll (ρ.set j (some d)) is ds)[j]? = some (some d') := hd
      rw [setAll_ne is ds _ j hj, List.getElem?_set_self hi] at hd
      cases hd
      refine ⟨v, ?_, r⟩
      show (setV (σ.set j (some v)) is vs)[j]? = _
      rw [setV_ne is vs _ j hj, List.getElem?_set_self (by rw [← e]; exact hi)]
  | _, _, _, _, _, .new (i := i) (is := is) (p := p) (d := d) (vs := vs) (ds := ds) o m, ρ, σ, nd, hl, e, j, h, hn => by
    intro d' hd
    rw [List.map_cons] at hn
    have hj : j ∈ is := by
      rcases List.mem_cons.mp h with h | h
      · exact absurd (by rw [h]; exact List.mem_cons_self) hn
      · exact h
    exact m.rest (ρ.set i (some d)) (σ.set i (some (.ref p))) (List.nodup_cons.mp nd).2 (fun j hj => by rw [List.length_set]; exact hl j (List.mem_cons_of_mem _ hj)) (by rw [List.length_set, List.length_set]; exact e) j hj (fun z => hn (List.mem_cons_of_mem _ z)) d' hd
theorem Mix.nd1 {K : PySem.W.Frag} {a0 : Addr} {Hv H' : Hp} : ∀ {is ks vs ds N}, Mix K a0 Hv H' is ks vs ds N → is.Nodup → (N.map (·.1)).Nodup
  | _, _, _, _, _, .nil, _ => List.nodup_nil
  | _, _, _, _, _, .old _ m, nd => m.nd1 (List.nodup_cons.mp nd).2
  | _, _, _, _, _, .new (i := i) _ m, nd => by
    rw [List.map_cons, List.nodup_cons]
    refine ⟨fun z => ?_, m.nd1 (List.nodup_cons.mp nd).2⟩
    obtain ⟨q, hq, e⟩ := List.mem_map.mp z
    exact (List.nodup_cons.mp nd).1 (by rw [← show q.1 = i from e]; exact m.slots q hq)
/-- the slots of what is new -/
def newsOf : List Nat → List Bool → List Nat
  | i :: is, true :: ks => i :: newsOf is ks
  | _ :: is, false :: ks => newsOf is ks
  | _, _ => []
theorem Mix.news {K : PySem.W.Frag} {a0 : Addr} {Hv H' : Hp} : ∀ {is ks vs ds N}, Mix K a0 Hv H' is ks vs ds N → N.map (·.1) = newsOf is ks
  | _, _, _, _, _, .nil => rfl
  | _, _, _, _, _, .old _ m => m.news
  | _, _, _, _, _, .new _ m => by rw [List.map_cons, m.news]; rfl
/-- names is = the things of l; kM stays owned, and is not seen by l -/
def sPar (kM is : List Nat) (l : DenL) : DenS := fun ρ R => (l (wipeE ρ kM) R).bind fun ds R1 => if decide (ds.length = is.length) && is.all (fun i => decide (i < ρ.length)) then .ok (.nx (setAll ρ is ds)) R1 else .stuck
theorem par_core {K : PySem.W.Frag} {kM is : List Nat} {ks : List Bool} {l : DenL} {D : L2.Ends} {σ : L2.St} {H : Hp} (hk : ∀ i ∈ kM, i ∈ O) (nd : is.Nodup) (h : tS K c E OL O (newsOf is ks ++ minus kM is) (sPar kM is l) D σ H) :
    tDX K c E is ks l σ H fun vs H' => vs.length = is.length ∧ D.nx (setV σ is vs) H' ∧ ∀ p, H' p = none → ∀ o, notTbl o → D.nx (setV σ is vs) (upd H' p o) := by
  obtain ⟨a0, S, H0, Vi, ρ, R, st, p⟩ := h
  obtain ⟨A, sa, h1, h2⟩ := st.drop hk
  refine ⟨a0, A.map (·.2) ++ S, wipeE ρ kM, R, sa.wdA, sa.envM h2, (Ends.bind p).mono (fun ds R' q vs N H' w' nd2 f m => ?_) fun nm R1 x dx H' w' e => x dx H' (sa.w.trans (w'.less (fun b hb => List.mem_append_right _ hb) sa.w.a0S)) e⟩
  split at q
  · rename_i hc
    rw [Bool.and_eq_true, List.all_eq_true] at hc
    have hl : ∀ i ∈ is, i < ρ.length := fun i hi => of_decide_eq_true (hc.2 i hi)
    have key : ∀ H2, Wd K c a0 (A.map (·.2) ++ S) H H2 R' → Mix K a0 (hide H2 (N.map (·.2) ++ (A.map (·.2) ++ S))) H2 is ks vs ds N → D.nx (setV σ is vs) H2 := fun H2 w2 m => by
      have own := m.own ρ σ nd hl sa.len
      have rest := m.rest ρ σ nd hl sa.len
      have S2 := sa.ownN (w2.less (fun b hb => List.mem_append_right _ hb) sa.w.a0S) N (m.nd1 nd) nd2 f m.slots (setAll_len is ds ρ) (fun i hi => setAll_ne is ds ρ i hi) (setV_len is vs σ) (fun i hi => setV_ne is vs σ i hi) own rest
      refine q _ _ ⟨_, S2, fun i hi d hd => ?_, fun i hi => ?_⟩
      · rw [List.map_append]
        rcases List.mem_append.mp hi with hi | hi
        · rw [m.news]; exact List.mem_append_left _ hi
        · obtain ⟨q1, q2⟩ := own_minus (ρ' := setAll ρ is ds) (fun i hi => setAll_ne is ds ρ i hi) h1 h2
          exact List.mem_append_right _ (q1 i hi d hd)
      · rw [List.map_append] at hi
        rcases List.mem_append.mp hi with hi | hi
        · rw [m.news] at hi; exact List.mem_append_left _ hi
        · obtain ⟨q1, q2⟩ := own_minus (ρ' := setAll ρ is ds) (fun i hi => setAll_ne is ds ρ i hi) h1 h2
          exact List.mem_append_right _ (q2 i hi)
    refine ⟨m.lens.1, key H' w' m, fun p hp o no => ?_⟩
    have w2 := w'.trans (w'.here.new (o := o) hp)
    have s2 : Sub (hide H' (N.map (·.2) ++ (A.map (·.2) ++ S))) (hide (upd H' p o) (N.map (·.2) ++ (A.map (·.2) ++ S))) := fun b u hb nb => by
      obtain ⟨n1, hb⟩ := of_hide hb
      rw [hide_out n1, upd_ne (ne_of_none hb hp)]
      exact hb
    refine key _ w2 (m.mono s2 fun q d ho => ho.mono s2 fun u e n => ?_)
    rw [upd_ne (ne_of_none e hp)]
    exact e
  · exact q.elim
theorem tDX_mono {K : PySem.W.Frag} {is : List Nat} {ks : List Bool} {l : DenL} {σ : L2.St} {H : Hp} {Q Q' : List V → Hp → Prop} (h : tDX K c E is ks l σ H Q) (k : ∀ vs H, Q vs H → Q' vs H) : tDX K c E is ks l σ H Q' := by
  obtain ⟨a0, S, ρ, R, w, en, p⟩ := h
  exact ⟨a0, S, ρ, R, w, en, p.mono (fun ds R' q vs N H' a b c d => k _ _ (q vs N H' a b c d)) fun _ _ x => x⟩
/-- a, b = e1, e2: names that are stored as they stand -/
theorem ds_par (kM : List Nat) (i j : Nat) {x y : Str} {a b : Expr} {ks : List Bool} {l : DenL} {px py pt : Pos} {kt k2 pt2} (hc : X.calm = true) (hN : X.N.Nodup) (ha : DXs X c E [i, j] ks [a, b] l) (hk : ∀ i ∈ kM, i ∈ O := by decide) (hi : X.N[i]? = some x := by rfl) (hj : X.N[j]? = some y := by rfl) (hij : i ≠ j := by decide)
    (hx : X.env.scope.names.lookup x = some .local := by rfl) (hy : X.env.scope.names.lookup y = some .local := by rfl)
    (hw : swappedStores [.Tuple [.Name x px, .Name y py] kt pt] (.Tuple [a, b] k2 pt2) X.env = pure (some [x, y]) := by rfl)
    (hs : swapsWithSole [.Tuple [.Name x px, .Name y py] kt pt] (.Tuple [a, b] k2 pt2) pos.line X.env = pure false := by rfl) :
    DS X c E OL O (newsOf [i, j] ks ++ minus kM [i, j]) (.Assign [.Tuple [.Name x px, .Name y py] kt pt] (.Tuple [a, b] k2 pt2) pos) (sPar kM [i, j] l) :=
  PS.imp (ps_par hc hN hi hj hij hx hy ha hw hs) fun D σ H h => by
    refine tDX_mono (par_core hk (by simp [hij]) h) fun vs H' ⟨hl, q, _⟩ => ?_
    match vs, hl with
    | [v, w], _ => exact ⟨v, w, rfl, q⟩
theorem ds_par3 (kM : List Nat) (i j k : Nat) {x y z : Str} {a b d : Expr} {ks : List Bool} {l : DenL} {px py pz pt : Pos} {kt k2 pt2} (hc : X.calm = true) (hN : X.N.Nodup) (ha : DXs X c E [i, j, k] ks [a, b, d] l) (hk : ∀ i ∈ kM, i ∈ O := by decide) (hi : X.N[i]? = some x := by rfl) (hj : X.N[j]? = some y := by rfl) (hz : X.N[k]? = some z := by rfl) (hij : i ≠ j := by decide) (hik : i ≠ k := by decide) (hjk : j ≠ k := by decide)
    (hx : X.env.scope.names.lookup x = some .local := by rfl) (hy : X.env.scope.names.lookup y = some .local := by rfl) (hzl : X.env.scope.names.lookup z = some .local := by rfl)
    (hw : swappedStores [.Tuple [.Name x px, .Name y py, .Name z pz] kt pt] (.Tuple [a, b, d] k2 pt2) X.env = pure (some [x, y, z]) := by rfl)
    (hs : swapsWithSole [.Tuple [.Name x px, .Name y py, .Name z pz] kt pt] (.Tuple [a, b, d] k2 pt2) pos.line X.env = pure false := by rfl) :
    DS X c E OL O (newsOf [i, j, k] ks ++ minus kM [i, j, k]) (.Assign [.Tuple [.Name x px, .Name y py, .Name z pz] kt pt] (.Tuple [a, b, d] k2 pt2) pos) (sPar kM [i, j, k] l) :=
  PS.imp (ps_par3 hc hN hi hj hz hij hik hjk hx hy hzl ha hw hs) fun D σ H h => by
    refine tDX_mono (par_core hk (by simp [hij, hik, hjk]) h) fun vs H' ⟨hl, q, _⟩ => ?_
    match vs, hl with
    | [v, w, u], _ => exact ⟨v, w, u, rfl, q⟩
end
end Ev

/-! Ev: enumerate and zip over lists and tuples of any mix -/
namespace Ev
open PySem PySem.Spec PyProof.Rows L2
/-- a list (false) or a tuple (true) -/
def SqK (b : Bool) (K : PySem.W.Frag) (H : Hp) (a : Addr) (xs : List V) : Prop := match b with
  | true => SqT K H a xs
  | false => SqL K H a xs
def SeqK (b : Bool) (h : Heap) (a : Addr) (its : Array Value) : Prop := match b with
  | true => h.IsTuple a its
  | false => h.IsList a its
def IterK (b : Bool) (h : Heap) (i a : Addr) (n : Nat) : Prop := match b with
  | true => h.IsTupleIter i a n
  | false => h.IsListIter i a n
def begK (b : Bool) (a : Addr) : Obj := match b with
  | true => { cls := .type "tuple_iterator", data := .fields #[.ref a, .int 0 0] }
  | false => { cls := .type "list_iterator", data := .fields #[.ref a, .int 0 0] }
theorem begins_K (b : Bool) (a : Addr) (its : Array Value) : Begins (.ref a) (begK b a) fun h => SeqK b h a its := by
  cases b
  · exact begins_list a its
  · exact begins_tuple a its
theorem iterK_beg {b : Bool} {h : Heap} {i a : Addr} (e : h.get? i = some (begK b a)) : IterK b h i a 0 := by
  cases b
  · exact ⟨_, e, rfl, rfl⟩
  · exact ⟨_, e, rfl, rfl⟩
theorem drawsK {prog : Program} {w : World} {A : Around} (hh : A.handled = none) (b : Bool) (it a : Addr) (hne : a ≠ it) (its : Array Value) :
    Draws prog w A it [it, a] its.size (fun i v => its[i]? = some v) (fun i h => IterK b h it a i ∧ SeqK b h a its) := by
  cases b
  · exact Draws.list hh it a hne its
  · exact Draws.tuple hh it a hne its
theorem IterK.obj {b : Bool} {h : Heap} {i a : Addr} {n : Nat} (p : IterK b h i a n) : ∃ o, h.get? i = some o ∧ ∀ v, o.data ≠ .cell v := by
  cases b
  · obtain ⟨o, e, _, d⟩ := p
    exact ⟨o, e, fun v q => by rw [d] at q; cases q⟩
  · obtain ⟨o, e, _, d⟩ := p
    exact ⟨o, e, fun v q => by rw [d] at q; cases q⟩
theorem IterK.at {b : Bool} {h h' : Heap} {i a : Addr} {n : Nat} (p : IterK b h i a n) (k : ∀ o, h.get? i = some o → h'.get? i = some o) : IterK b h' i a n := by
  cases b
  · exact Heap.IsListIter.at p k
  · exact Heap.IsTupleIter.at p k
section
variable {X : Cx} {pins : List (Addr × Obj)} {σ : L2.St} {H : Hp} {s : Shared}
theorem inv_seqK {b : Bool} {a : Addr} {xs : List V} (I : Inv X pins σ H s) (h : SqK b X.K H a xs) : ∃ its : List Value, Vals xs its ∧ SeqK b s.heap a its.toArray ∧ a < s.heap.objs.size := by
  cases b
  · obtain ⟨its, rv, p, _⟩ := I.list h
    exact ⟨its, rv, p.isList, by obtain ⟨o, e, _⟩ := p.isList; exact Heap.lt_size e⟩
  · obtain ⟨its, rv, p, _⟩ := I.tuple h
    exact ⟨its, rv, p, by obtain ⟨o, e, _⟩ := id p; exact Heap.lt_size e⟩
theorem inv_injK {b : Bool} {a : Addr} {xs ys : List V} (I : Inv X pins σ H s) (h : SqK b X.K H a xs) (h' : SqK b X.K H a ys) : xs = ys := by
  cases b
  · exact I.list_inj h h'
  · exact I.tuple_inj h h'
end
/-! ### enumerate -/
def ItE (b : Bool) (K : PySem.W.Frag) (a : Addr) : It :=
  ⟨fun i H => ∃ (xs : List V) (x : V), SqK b K H a xs ∧ xs[i]? = some x,
   fun i H v H' => ∃ T x, v = .ref T ∧ H T = none ∧ H' = upd H T (.tup [.int (i : Nat), x]) ∧ ∀ xs, SqK b K H a xs → xs[i]? = some x,
   fun i H => ∃ xs : List V, SqK b K H a xs ∧ xs.length = i⟩
theorem turn_enumK {P : Program} {w : World} {K : PySem.W.Frag} {elts : List Expr} {kk : Nat} {tpos : Pos} (b : Bool) (a e it : Addr) (hai : a ≠ it) (hea : e ≠ a) :
    Turn P w K (.Tuple elts kk tpos) (ItE b K a) [e, it] e (fun i h => (∃ old, IsEnum h e it ((i : Nat) : Int) old) ∧ IterK b h it a i ∧ e ≠ it) where
  mem := List.mem_cons_self
  obj := fun i h st c hc => by
    obtain ⟨⟨old, he⟩, hi, _⟩ := st
    rcases List.mem_cons.mp hc with q | q
    · subst q; exact ⟨_, he, fun v z => nomatch z⟩
    · rw [List.mem_singleton.mp q]; exact hi.obj
  keep := fun i h h' st k => ⟨⟨st.1.choose, k e List.mem_cons_self _ st.1.choose_spec⟩, st.2.1.at fun o q => k it (List.mem_cons_of_mem _ List.mem_cons_self) o q, st.2.2⟩
  item := by
    intro X hP hw hK hc i pins s σ H E I hf st hg
    subst hP hw hK
    obtain ⟨⟨old, he⟩, hit, hne⟩ := st
    obtain ⟨xs, x, hq, hx⟩ := hg
    obtain ⟨its, rv, p, hal⟩ := inv_seqK I hq
    obtain ⟨u, hu, ru⟩ := rv.get hx
    have hlt : i < its.toArray.size := by
      have := (List.getElem?_eq_some_iff.mp hu).1
      simpa using this
    refine wpAny_pyNext_enum_itemD (drawsK (A := X.A.in1) (show X.A.in1.handled = none from I.ok.hd hc) b it a hai its.toArray) he ⟨hit, p⟩ hlt hne (by simp [hne, hea]) fun x' h' tk hx' ho hst' hT hsz hk => ?_
    have hxu : x' = u := by
      have e1 : its[i]? = some x' := by simpa using hx'
      rw [hu] at e1
      exact (Option.some.inj e1).symm
    subst hxu
    have old1 : ∀ c o, s.heap.get? c = some o → c ≠ s.heap.objs.size := fun c o q => Nat.ne_of_lt (Heap.lt_size q)
    refine ⟨_, rfl, wpAny_letOwnedTupleGo_enum (s := { s with heap := h', toks := tk + 1 }) ho fun h'' he' sb => ?_⟩
    have hT2 : h''.get? s.heap.objs.size = some { cls := .type "tuple", data := .seq #[.int i tk, x'] } := (sb.2 _ (Ne.symm (old1 e _ he))).trans hT
    have new : ObjOk X.prog X.w (upd H s.heap.objs.size (.tup [.int (i : Nat), x])) h'' s.heap.objs.size (.tup [.int (i : Nat), x]) :=
      ⟨(by show 2 ≤ sizeLine; decide), [.int i tk, x'], .cons ⟨_, rfl⟩ (.cons ru .nil), ⟨_, hT2, rfl, _, rfl⟩⟩
    have I1 : Inv X pins σ (upd H s.heap.objs.size (.tup [.int (i : Nat), x])) { s with heap := h'', toks := tk + 1 } :=
      I.turnedNew (ch := [e, it]) (fun c o hcn q => by
        have n1 : c ≠ e := fun z => hcn (by rw [z]; exact List.mem_cons_self)
        have n2 : c ≠ it := fun z => hcn (by rw [z]; exact List.mem_cons_of_mem _ List.mem_cons_self)
        exact (sb.2 c n1).trans (hk c o n1 n2 q)) hf (Nat.le_refl _) new
    obtain ⟨oi, ei, _⟩ := hit.obj
    refine ⟨.ref s.heap.objs.size, _, I1, rfl, ⟨_, x, rfl, I.hok.fresh (Nat.le_refl _), rfl, fun ys hy => by rw [inv_injK I hy hq]; exact hx⟩, ⟨⟨x', ?_⟩, hst'.1.at fun o q => (sb.2 it (Ne.symm hne)).trans q, hne⟩, fun c hcm => ?_⟩
    · rw [show ((i + 1 : Nat) : Int) = (i : Int) + 1 from by omega]
      exact he'
    · have hcs : c ≠ s.heap.objs.size := by
        rcases List.mem_cons.mp hcm with z | z
        · subst z; exact old1 _ _ he
        · rw [List.mem_singleton.mp z]; exact old1 _ _ ei
      rw [upd_ne hcs]
      exact (hf c hcm).1
  done := by
    intro X hP hw hK hc i pins s σ H E I hf st hg
    subst hP hw hK
    obtain ⟨⟨old, he⟩, hit, hne⟩ := st
    obtain ⟨xs, hq, hx⟩ := hg
    obtain ⟨its, rv, p, hal⟩ := inv_seqK I hq
    have hl := rv.length
    have hi : i = its.toArray.size := by simp; omega
    subst hi
    refine wpAny_pyNext_enum_endD (drawsK (A := X.A.in1) (show X.A.in1.handled = none from I.ok.hd hc) b it a hai its.toArray) he ⟨hit, p⟩ fun h' eb => ⟨rfl, ?_⟩
    obtain ⟨f0, f1, f2, f3, f4, f5⟩ := hf it (List.mem_cons_of_mem _ List.mem_cons_self)
    exact I.turned (t' := s.toks) (fun c o hcn q => eb c o hcn q) f0 f1 f3 f4 f5
  self := fun A i s Q E st h => wpAny_pyIter_enum st.1.choose_spec h
theorem enum_new {v : Value} {o : Obj} {G : Heap → Prop} (B : Begins v o G) :
    Meets (Builtin.«enumerate.__new__» ⟨[.type "enumerate", v], []⟩) (fun _ R s => G s.heap ∧
      R (.ok (.ret (.ref (s.heap.push o).objs.size))) { s with heap := (s.heap.push o).push { cls := .type "enumerate", data := .fields #[.none, .bool false, .ref s.heap.objs.size, rawInt 0, .none, .none] } }) :=
  .of_wp fun prog w A R s h => by
    obtain ⟨hp, g, d, tk, os⟩ := s
    obtain ⟨hg, h⟩ := h
    have hsub := sub_enumerate
    have beg : ∀ {A1 : Around} {E1 Q1 : Value → Shared → Prop}, Q1 (.ref hp.objs.size) ⟨hp.push o, g, d, tk, os⟩ → wpAny (model prog w) A1 (pyIter v) Q1 E1 ⟨hp, g, d, tk, os⟩ := fun q => B.iter prog w _ _ ⟨hp, g, d, tk, os⟩ _ hg q
    wp_walk using beg
    refine wpAny_stack_any fun st => wpAny_pure ?_
    split
    · rename_i ct _ _ _ _ _
      cases (ct == Value.type "enumerate") <;> (wp_walk using beg; exact ⟨_, rfl, h⟩)
    · wp_walk using beg
      exact ⟨_, rfl, h⟩
theorem call_enumK {prog : Program} {w : World} {A : Around} {E : Value → Shared → Prop} {s : Shared} {b : Bool} {a : Addr} {its : Array Value} {Q : Value → Shared → Prop} (hL : SeqK b s.heap a its)
    (k : ∀ h', IsEnum h' (s.heap.objs.size + 1) s.heap.objs.size 0 .none → IterK b h' s.heap.objs.size a 0 → (∀ c o, s.heap.get? c = some o → h'.get? c = some o) → Q (.ref (s.heap.objs.size + 1)) { s with heap := h' }) :
    wpAny (model prog w) A (call (.type "enumerate") [.ref a]) Q E s := by
  refine callType_new F.called_enumerate (by decide) (F.typeCall_enumerate_1 _) (F.newCall_enumerate_1 _) (fun obj => F.args_object_init_2 obj _) F.entry_enumerate_new (enum_new (begins_K b a its)) ⟨hL, ?_⟩
  have sz : (s.heap.push (begK b a)).objs.size = s.heap.objs.size + 1 := Heap.size_push ..
  have ge := Heap.get?_push_size (s.heap.push (begK b a)) (o := { cls := .type "enumerate", data := .fields #[.none, .bool false, .ref s.heap.objs.size, rawInt 0, .none, .none] }) rfl
  have gi : ((s.heap.push (begK b a)).push { cls := .type "enumerate", data := .fields #[.none, .bool false, .ref s.heap.objs.size, rawInt 0, .none, .none] }).get? s.heap.objs.size = some (begK b a) := Heap.get?_push_of_some _ (Heap.get?_push_size _ (by cases b <;> rfl))
  show _ ∧ _
  rw [sz] at ge ⊢
  exact ⟨⟨_, ge, rfl⟩, k _ ge (iterK_beg gi) fun c o q => Heap.get?_push_of_some _ (Heap.get?_push_of_some _ q)⟩
def iEnumK (K : PySem.W.Frag) (ta : TA) : TI := fun σ H R => ta σ H fun vs H1 => ∃ b a xs, vs = [.ref a] ∧ SqK b K H1 a xs ∧ R (ItE b K a) H1
theorem pi_enumK {X : Cx} {e : Expr} {ta : TA} {p pos tpos : Pos} {elts : List Expr} {kk : Nat} (hg : Gl X "enumerate") (hm : X.mg "enumerate" = none) (ha : PA X [e] ta) (hs : starEach [e] X.env = [(false, eval e X.env)] := by rfl) :
    PI X (.Tuple elts kk tpos) (.Call (.Name "enumerate" p) [e] [] pos) (iEnumK X.K ta) := by
  refine ⟨fun pins s σ H R I h => Call_ (ld_blt I hg hm boot_enumerate (PyProof.Rows.callWith_type1 (thn (ha.run pos pins s σ H _ I h) fun us s1 ⟨vs, H1, I1, r1, q1⟩ => ?_) hs rfl))⟩
  obtain ⟨b, a, xs, ex, hq, q⟩ := q1
  subst ex
  rw [Vals.ref1 r1]
  obtain ⟨its, rv, p', hal⟩ := inv_seqK I1 hq
  refine call_enumK p' fun h' he hit hk => wpAny_pyIter_enum he ?_
  have I2 : Inv X pins σ H1 { s1 with heap := h' } := I1.kept (t' := s1.toks) hk
  refine ⟨s1.heap.objs.size + 1, [s1.heap.objs.size + 1, s1.heap.objs.size], _, _, H1, rfl, I2, turn_enumK b a (s1.heap.objs.size + 1) s1.heap.objs.size (Nat.ne_of_lt hal) (Nat.ne_of_gt (Nat.lt_succ_of_lt hal)), ⟨⟨.none, he⟩, hit, Nat.succ_ne_self _⟩, fun c hc => ?_, q⟩
  have hle : s1.heap.objs.size ≤ c := by
    rcases List.mem_cons.mp hc with z | z
    · rw [z]; exact Nat.le_succ _
    · rw [List.mem_singleton.mp z]; exact Nat.le_refl _
  exact I1.fpOk hle (I1.hok.fresh hle)
/-! ### zip -/
def ItZ (b1 b2 : Bool) (K : PySem.W.Frag) (a b : Addr) : It :=
  ⟨fun i H => ∃ (xs ys : List V) (x y : V), SqK b1 K H a xs ∧ SqK b2 K H b ys ∧ xs[i]? = some x ∧ ys[i]? = some y,
   fun i H v H' => ∃ T x y, v = .ref T ∧ H T = none ∧ H' = upd H T (.tup [x, y]) ∧ (∀ xs, SqK b1 K H a xs → xs[i]? = some x) ∧ ∀ ys, SqK b2 K H b ys → ys[i]? = some y,
   fun i H => ∃ xs ys : List V, SqK b1 K H a xs ∧ SqK b2 K H b ys ∧ i ≤ xs.length ∧ i ≤ ys.length ∧ (i = xs.length ∨ i = ys.length)⟩
theorem turn_zipK {P : Program} {w : World} {K : PySem.W.Frag} {elts : List Expr} {kk : Nat} {tpos : Pos} (b1 b2 : Bool) {a b z TI TO i1 i2 : Addr} (D : ZipSep2 z TI TO i1 i2 [i1, a] [i2, b]) (ha1 : a ≠ i1) (hb2 : b ≠ i2) :
    Turn P w K (.Tuple elts kk tpos) (ItZ b1 b2 K a b) [z, TI, TO, i1, i2] z (fun i h => IsZip h z TI TO .none ∧ IsTupOf2 h TI (.ref i1) (.ref i2) ∧ (∃ x y, IsTupOf2 h TO x y) ∧ IterK b1 h i1 a i ∧ IterK b2 h i2 b i) where
  mem := List.mem_cons_self
  obj := fun i h st c hc => by
    obtain ⟨hz, hTI, ⟨x, y, hTO⟩, h1, h2⟩ := st
    simp only [List.mem_cons, List.mem_nil_iff, or_false] at hc
    rcases hc with q | q | q | q | q
    · rw [q]; exact ⟨_, hz, fun v q => nomatch q⟩
    · rw [q]; exact ⟨_, hTI, fun v q => nomatch q⟩
    · rw [q]; exact ⟨_, hTO, fun v q => nomatch q⟩
    · rw [q]; exact h1.obj
    · rw [q]; exact h2.obj
  keep := fun i h h' st k => by
    obtain ⟨hz, hTI, ⟨x, y, hTO⟩, h1, h2⟩ := st
    exact ⟨k _ (by simp) _ hz, k _ (by simp) _ hTI, ⟨x, y, k _ (by simp) _ hTO⟩, h1.at (k _ (by simp)), h2.at (k _ (by simp))⟩
  item := by
    intro X hP hw hK hc i pins s σ H E I hf st hg
    subst hP hw hK
    obtain ⟨hz, hTI, ⟨x0, y0, hTO⟩, h1, h2⟩ := st
    obtain ⟨xs, ys, x, y, hqx, hqy, hx, hy⟩ := hg
    obtain ⟨its, rv, p, _⟩ := inv_seqK I hqx
    obtain ⟨its2, rv2, p2, _⟩ := inv_seqK I hqy
    obtain ⟨u, hu, ru⟩ := rv.get hx
    obtain ⟨u2, hu2, ru2⟩ := rv2.get hy
    have l1 : i < its.toArray.size := by simpa using (List.getElem?_eq_some_iff.mp hu).1
    have l2 : i < its2.toArray.size := by simpa using (List.getElem?_eq_some_iff.mp hu2).1
    refine wpAny_pyNext_zipD2_item D (drawsK (A := X.A.in1) (show X.A.in1.handled = none from I.ok.hd hc) b1 i1 a ha1 its.toArray) (drawsK (A := X.A.in1) (show X.A.in1.handled = none from I.ok.hd hc) b2 i2 b hb2 its2.toArray) hz hTI hTO ⟨h1, p⟩ ⟨h2, p2⟩ l1 l2 fun v1 v2 h' tk e1 e2 hz' hTO' s1' s2' hT hsz hk => ?_
    have e1 : v1 = u := by
      have q : its[i]? = some v1 := by simpa using e1
      rw [hu] at q
      exact (Option.some.inj q).symm
    have e2 : v2 = u2 := by
      have q : its2[i]? = some v2 := by simpa using e2
      rw [hu2] at q
      exact (Option.some.inj q).symm
    subst e1 e2
    have old1 : ∀ c o, s.heap.get? c = some o → c ≠ s.heap.objs.size := fun c o q => Nat.ne_of_lt (Heap.lt_size q)
    refine ⟨_, rfl, wpAny_letOwnedTupleGo_zip (s := { s with heap := h', toks := tk }) hz' fun h'' z'' sb => ?_⟩
    have hT2 : h''.get? s.heap.objs.size = some { cls := .type "tuple", data := .seq #[v1, v2] } := (sb.2 _ (Ne.symm (old1 z _ hz))).trans hT
    have new : ObjOk X.prog X.w (upd H s.heap.objs.size (.tup [x, y])) h'' s.heap.objs.size (.tup [x, y]) :=
      ⟨(by show 2 ≤ sizeLine; decide), [v1, v2], .cons ru (.cons ru2 .nil), ⟨_, hT2, rfl, _, rfl⟩⟩
    have I1 : Inv X pins σ (upd H s.heap.objs.size (.tup [x, y])) { s with heap := h'', toks := tk } :=
      I.turnedNew (ch := [z, TI, TO, i1, i2]) (fun c o hb q => by
        simp only [List.mem_cons, List.mem_nil_iff, or_false, not_or] at hb
        exact (sb.2 c hb.1).trans (hk c o hb.1 hb.2.2.1 hb.2.2.2.1 hb.2.2.2.2 q)) hf (Nat.le_refl _) new
    obtain ⟨o1, q1, _⟩ := h1.obj
    obtain ⟨o2, q2, _⟩ := h2.obj
    refine ⟨.ref s.heap.objs.size, _, I1, rfl, ⟨_, x, y, rfl, I.hok.fresh (Nat.le_refl _), rfl, fun l hl => by rw [inv_injK I hl hqx]; exact hx, fun l hl => by rw [inv_injK I hl hqy]; exact hy⟩, ⟨z'', ?_, ⟨v1, v2, ?_⟩, ?_, ?_⟩, fun c hcm => ?_⟩
    · exact (sb.2 _ D.TIz).trans (hk _ _ D.TIz D.TITO D.TIi1 D.TIi2 hTI)
    · exact (sb.2 _ D.TOz).trans hTO'
    · exact s1'.1.at fun o q => (sb.2 _ (Ne.symm D.zi1)).trans q
    · exact s2'.1.at fun o q => (sb.2 _ (Ne.symm D.zi2)).trans q
    · have hcs : c ≠ s.heap.objs.size := by
        simp only [List.mem_cons, List.mem_nil_iff, or_false] at hcm
        rcases hcm with q | q | q | q | q
        · rw [q]; exact old1 _ _ hz
        · rw [q]; exact old1 _ _ hTI
        · rw [q]; exact old1 _ _ hTO
        · rw [q]; exact old1 _ _ q1
        · rw [q]; exact old1 _ _ q2
      rw [upd_ne hcs]
      exact (hf c hcm).1
  done := by
    intro X hP hw hK hc i pins s σ H E I hf st hg
    subst hP hw hK
    obtain ⟨hz, hTI, ⟨x0, y0, hTO⟩, h1, h2⟩ := st
    obtain ⟨xs, ys, hqx, hqy, n1, n2, hend⟩ := hg
    obtain ⟨its, rv, p, _⟩ := inv_seqK I hqx
    obtain ⟨its2, rv2, p2, _⟩ := inv_seqK I hqy
    have l1 := rv.length
    have l2 := rv2.length
    refine wpAny_pyNext_zipD2_end D (drawsK (A := X.A.in1) (show X.A.in1.handled = none from I.ok.hd hc) b1 i1 a ha1 its.toArray) (drawsK (A := X.A.in1) (show X.A.in1.handled = none from I.ok.hd hc) b2 i2 b hb2 its2.toArray) hz hTI hTO ⟨h1, p⟩ ⟨h2, p2⟩ (by simp; omega) (by simp; omega) (by simp; omega) fun h' tk hk => ⟨rfl, ?_⟩
    exact I.turnedL (t' := tk) (ch := [z, TI, TO, i1, i2]) (fun c o hb q => by
      simp only [List.mem_cons, List.mem_nil_iff, or_false, not_or] at hb
      exact hk c o hb.1 hb.2.2.1 hb.2.2.2.1 hb.2.2.2.2 q) hf
  self := fun A i s Q E st h => wpAny_pyIter_zip st.1 h
def iZipK (K : PySem.W.Frag) (ta : TA) : TI := fun σ H R => ta σ H fun vs H1 => ∃ b1 b2 a b xs ys, vs = [.ref a, .ref b] ∧ SqK b1 K H1 a xs ∧ SqK b2 K H1 b ys ∧ R (ItZ b1 b2 K a b) H1
theorem pi_zipK {X : Cx} {e e2 : Expr} {ta : TA} {p pos tpos : Pos} {elts : List Expr} {kk : Nat} (hg : Gl X "zip") (hm : X.mg "zip" = none) (ha : PA X [e, e2] ta)
    (hs : starEach [e, e2] X.env = (false, eval e X.env) :: starEach [e2] X.env := by rfl) (hpl : (backTo pos (starEach [e2] X.env)).any (·.1) = false := by rfl) :
    PI X (.Tuple elts kk tpos) (.Call (.Name "zip" p) [e, e2] [] pos) (iZipK X.K ta) := by
  refine ⟨fun pins s σ H R I h => Call_ (ld_blt I hg hm PyProof.Rows.boot_zip (PyProof.Rows.callWith_type1 (thn (ha.run pos pins s σ H _ I h) fun us s1 ⟨vs, H1, I1, r1, q1⟩ => ?_) hs hpl))⟩
  obtain ⟨b1, b2, a, b, xs, ys, ex, hqx, hqy, q⟩ := q1
  subst ex
  cases r1 with
  | cons r rr =>
    cases rr with
    | cons r' rr =>
      cases rr
      cases r
      cases r'
      obtain ⟨its, rv, p1, la⟩ := inv_seqK I1 hqx
      obtain ⟨its2, rv2, p2, lb⟩ := inv_seqK I1 hqy
      refine zip_begins2 (begins_K b1 a its.toArray) (begins_K b2 b its2.toArray) p1 p2 fun h' hz hTI hTO g1 g2 hsz hk => wpAny_pyIter_zip hz ?_
      have I2 : Inv X pins σ H1 { s1 with heap := h' } := I1.kept (t' := s1.toks) hk
      refine ⟨s1.heap.objs.size + 4, [s1.heap.objs.size + 4, s1.heap.objs.size + 2, s1.heap.objs.size + 3, s1.heap.objs.size, s1.heap.objs.size + 1], _, _, H1, rfl, I2,
        turn_zipK b1 b2 (zip_sep2 (N := s1.heap.objs.size) (fp1 := [a]) (fp2 := [b]) (fun c hc => by rw [List.mem_singleton.mp hc]; exact la) (fun c hc => by rw [List.mem_singleton.mp hc]; exact lb)) (Nat.ne_of_lt la) (Nat.ne_of_lt (Nat.lt_succ_of_lt lb)),
        ⟨hz, hTI, ⟨_, _, hTO⟩, iterK_beg g1, iterK_beg g2⟩, fun c hcm => ?_, q⟩
      have hle : s1.heap.objs.size ≤ c := by
        simp only [List.mem_cons, List.mem_nil_iff, or_false] at hcm
        rcases hcm with z | z | z | z | z <;> (rw [z]; first | exact Nat.le_add_right _ _ | exact Nat.le_refl _)
      exact I1.fpOk hle (I1.hok.fresh hle)
end Ev

/-! Ev: enumerate, zip, several names through a tuple, x[k] += e, list(range(..)) -/
namespace Ev
open PySem PySem.Spec PyProof.Rows L2
section
variable {K : PySem.W.Frag} {a b : Addr} {xs ys : List V}
theorem walk_enumK {k : Bool} : Walk (ItE k K a) xs.length (fun H => SqK k K H a xs) (YPair (fun i => ((List.range xs.length).map fun j : Nat => V.int (0 + (j : Int)))[i]?) (fun i => xs[i]?)) := by
  refine ⟨fun i _ hi q => ⟨xs, xs[i], q, by simp [hi]⟩, fun _ q => ⟨xs, q, rfl⟩, fun i H v H' hi q y => ?_⟩
  obtain ⟨T, x, h1, h2, h3, h4⟩ := y
  exact ⟨T, .int (i : Nat), x, h1, h2, h3, by simp [hi], h4 xs q⟩
theorem walk_zipK {k1 k2 : Bool} : Walk (ItZ k1 k2 K a b) (min xs.length ys.length) (fun H => SqK k1 K H a xs ∧ SqK k2 K H b ys) (YPair (fun i => xs[i]?) (fun i => ys[i]?)) := by
  refine ⟨fun i _ hi q => ?_, fun _ q => ⟨xs, ys, q.1, q.2, by omega, by omega, by omega⟩, fun i H v H' _ q y => ?_⟩
  · have h1 : i < xs.length := by omega
    have h2 : i < ys.length := by omega
    exact ⟨xs, ys, xs[i], ys[i], q.1, q.2, by simp [h1], by simp [h2]⟩
  · obtain ⟨T, x, z, h1, h2, h3, h4, h5⟩ := y
    exact ⟨T, x, z, h1, h2, h3, h4 xs q.1, h5 ys q.2⟩
end
section
variable {X : Cx} {c : Cfg} {E : XK} {tg : Expr} {p pos tpos : Pos} {elts : List Expr} {kk : Nat}
theorem seq_inv {K : PySem.W.Frag} {a0 : Addr} {S : List Addr} {H : Hp} {v : V} {x : PyData} {ds : List PyData} (r : Rep K a0 (hide H S) v x) (h : seqD x = some ds) : ∃ k a xs, v = .ref a ∧ RepA K a0 (hide H S) xs ds ∧ SqK k K H a xs ∧ ∀ S' H2, Sub (hide H S) (hide H2 S') → SqK k K H2 a xs := by
  cases x with
  | list es =>
    cases h
    obtain ⟨a, xs, rfl, h1, rA⟩ := r.list_inv
    exact ⟨false, a, xs, rfl, rA, .inl (.inl (of_hide h1).2), fun S' H2 s => .inl (.inl (of_hide (s _ _ h1 nt_lst)).2)⟩
  | tuple es =>
    cases h
    obtain ⟨a, xs, rfl, h1, rA⟩ := r.tup_inv
    exact ⟨true, a, xs, rfl, rA, .inl (.inl (of_hide h1).2), fun S' H2 s => .inl (.inl (of_hide (s _ _ h1 nt_tup)).2)⟩
  | _ => cases h
def enumD (ds : List PyData) : List PyData := pairD (rangeL 0 ds.length) ds
def lEnum (l : DenL) : DenL := fun ρ R => (l ρ R).bind fun xs R1 => match xs with
  | [x] => ofO ((seqD x).map enumD) R1
  | _ => .stuck
theorem di_enum {e : Expr} {l : DenL} (ha : DEs X c E [e] l) (hm : X.mg "enumerate" = none) (hg : Gl X "enumerate" := by rfl) (hs : starEach [e] X.env = [(false, eval e X.env)] := by rfl) :
    DI X c E (.Tuple elts kk tpos) (.Call (.Name "enumerate" p) [e] [] pos) (lEnum l) := by
  refine PI.imp (pi_enumK hg hm ha hs) fun σ H Q ⟨a0, S, ρ, R, w, en, p⟩ => tDL_of w en (ends_next p fun xs R1 p vs H1 w1 r1 => ?_)
  split at p
  · obtain ⟨ds, e, q⟩ := Ends.ofO p
    obtain ⟨es, e1, rfl⟩ := Option.map_eq_some_iff.mp e
    obtain ⟨v, rfl, r8⟩ := repA_one r1
    obtain ⟨k, a, as, rfl, rA, hq, up⟩ := seq_inv r8 e1
    have rI : RepA X.K a0 (hide H1 S) ((List.range as.length).map fun j : Nat => V.int (0 + (j : Int))) (rangeL 0 es.length) := by
      rw [← rA.length]
      have := RepA.ints (K := X.K) (a0 := a0) (H := hide H1 S) ((List.range as.length).map fun j : Nat => (0 + (j : Int)))
      rw [List.map_map, List.map_map] at this
      exact this
    refine ⟨k, a, as, rfl, hq, q _ _ w1 (walks_pairs rI rA ?_ fun S' H2 s => up S' H2 s.1)⟩
    have : min ((List.range as.length).map fun j : Nat => V.int (0 + (j : Int))).length as.length = as.length := by simp
    rw [this]
    exact walk_enumK
  · exact p.elim
def zipA : List PyData → Option (List PyData)
  | [x, y] => (seqD x).bind fun xs => (seqD y).map fun ys => pairD xs ys
  | _ => none
def lZipA (l : DenL) : DenL := fun ρ R => (l ρ R).bind fun ds R1 => ofO (zipA ds) R1
theorem di_zipA {e e2 : Expr} {l : DenL} (ha : DEs X c E [e, e2] l) (hm : X.mg "zip" = none) (hg : Gl X "zip" := by rfl) (hs : starEach [e, e2] X.env = (false, eval e X.env) :: starEach [e2] X.env := by rfl) (hpl : (backTo pos (starEach [e2] X.env)).any (·.1) = false := by rfl) :
    DI X c E (.Tuple elts kk tpos) (.Call (.Name "zip" p) [e, e2] [] pos) (lZipA l) := by
  refine PI.imp (pi_zipK hg hm ha hs hpl) fun σ H Q ⟨a0, S, ρ, R, w, en, p⟩ => tDL_of w en (ends_next p fun xs R1 p vs H1 w1 r1 => ?_)
  obtain ⟨ds, e, q⟩ := Ends.ofO p
  unfold zipA at e
  split at e
  · obtain ⟨xs, e1, e⟩ := Option.bind_eq_some_iff.mp e
    obtain ⟨ys, e2, rfl⟩ := Option.map_eq_some_iff.mp e
    obtain ⟨v, u, rfl, r8, r9⟩ := repA_two r1
    obtain ⟨k1, a, as, rfl, rA, hq, up⟩ := seq_inv r8 e1
    obtain ⟨k2, b, bs, rfl, rB, hq2, up2⟩ := seq_inv r9 e2
    exact ⟨k1, k2, a, b, as, bs, rfl, hq, hq2, q _ _ w1 (walks_pairs rA rB walk_zipK fun S' H2 s => ⟨up S' H2 s.1, up2 S' H2 s.1⟩)⟩
  · cases e
end
/-! ### names = a tuple of things, some new -/
section
variable {X : Cx} {c : Cfg} {E : XK} {OL O O1 O2 O' : List Nat} {pos : Pos}
def gNs : List Nat → TGs
  | [] => gNil
  | i :: is => gCons (gName i) (gNs is)
theorem pgn_nil : PGs X [] (gNs []) := pgs_nil
theorem pgn_cons (i : Nat) {is : List Nat} {x : Str} {px : Pos} {es : List Expr} (hN : X.N.Nodup) (h : PGs X es (gNs is)) (hi : X.N[i]? = some x := by rfl) (hx : Loc X.env.scope x := by first | exact Or.inl rfl | exact Or.inr rfl) (hf : X.fn x = true ∨ X.env.scope.names.lookup x = some .local := by first | exact .inl rfl | exact .inr rfl)
    (hs : (assignEach (.Name x px :: es) X.env).map (·.2) = assign (.Name x px) X.env :: (assignEach es X.env).map (·.2) := by rfl) : PGs X (.Name x px :: es) (gNs (i :: is)) := pgs_cons (pg_name hN hi hx hf) h hs
theorem gNs_of : ∀ {is : List Nat} {vs : List V} {σ : L2.St} {H : Hp} {Q : L2.St → Hp → Prop}, vs.length = is.length → Q (setV σ is vs) H → gNs is vs σ H Q
  | [], vs, σ, H, Q, hl, q => by
    cases vs with
    | nil => exact ⟨rfl, q⟩
    | cons v vs => simp at hl
  | i :: is, vs, σ, H, Q, hl, q => by
    cases vs with
    | nil => simp at hl
    | cons v vs => exact ⟨v, vs, rfl, gNs_of (by simpa using hl) q⟩
theorem ds_parT (kM is : List Nat) {tgs es : List Expr} {ks : List Bool} {l : DenL} {pt pt2 : Pos} {kt : Nat} {k2} (hc : X.calm = true) (ha : DXs X c E is ks es l) (hg : PGs X tgs (gNs is)) (hk : ∀ i ∈ kM, i ∈ O := by decide) (nd : is.Nodup := by decide) (hz : is.length ≤ 100 := by decide)
    (hs : swapsWithSole [.Tuple tgs kt pt] (.Tuple es k2 pt2) pos.line X.env = pure false := by rfl) (hw : swappedStores [.Tuple tgs kt pt] (.Tuple es k2 pt2) X.env = pure none := by rfl)
    (h1 : (assignEach [.Tuple tgs kt pt] X.env).map (·.2) = [assign (.Tuple tgs kt pt) X.env] := by rfl) (hn : (assignEach tgs X.env).length = is.length := by rfl) (hst : (assignEach tgs X.env).findIdx? (·.1) = none := by rfl) :
    DS X c E OL O (newsOf is ks ++ minus kM is) (.Assign [.Tuple tgs kt pt] (.Tuple es k2 pt2) pos) (sPar kM is l) :=
  PS.imp (ps_asg (pe_tup ha) (pg_tup hc hg hn hst) hs hw h1) fun D σ H h => by
    refine tDX_mono (par_core hk nd h) fun vs H' ⟨hl, _, q⟩ => ⟨small_sz (by omega), fun p hp => ?_⟩
    exact ⟨p, vs, rfl, .inl (.inl upd_same), hl, gNs_of hl (q p hp (.tup vs) nt_tup)⟩
/-! ### list(range(..)) -/
end
end Ev

/-! Ev: x[k] += e, list(range(..)) -/
namespace Ev
open PySem PySem.Spec PyProof.Rows L2
section
variable {X : Cx} {c : Cfg} {E : XK} {OL O O1 O2 O' : List Nat} {pos : Pos}
def rGetP (K : PySem.W.Frag) : V → V → Hp → VK → Prop := fun x y H Q => ∃ p xs i v, x = .ref p ∧ y = .int i ∧ SqL K H p xs ∧ 0 ≤ i ∧ atI xs i = some v ∧ Q v H
theorem get_listP : PGet X (rGetP X.K) := by
  rintro pins s σ H o y ov iv Q I ro ry ⟨p, xs, i, z, rfl, rfl, hq, h0, he, q⟩
  cases ro
  obtain ⟨t, rfl⟩ := ry
  obtain ⟨its, r, pl, hz⟩ := I.list hq
  obtain ⟨j, h1, h2, h3, h4, h5⟩ := atI_get he
  obtain ⟨w, ew, rw'⟩ := r.get h2
  have hn := line63
  have hj : i.toNat = j := by
    rw [seqIndex_of h0 h5] at h1
    exact Option.some.inj h1
  exact wpAny_getItem_list pl.isList h0 (by omega) (by rw [hj]; simpa using ew) ⟨z, H, I, rw', q⟩
/-- xs[k] = f xs[k] e, k not below 0 -/
def augI (f : Int → Int → Int) (x k : PyData) : Option (List PyData × Int × Nat) := match x, k with
  | .list ds, .int i => if 0 ≤ i then (ixN ds.length i).bind fun j => match ds[j]? with
    | some (.int o) => some (ds, o, j)
    | _ => none
    else none
  | _, _ => none
def augV (f : Int → Int → Int) (q : List PyData × Int × Nat) : PyData → Option PyData
  | .int v => some (.list (q.1.set q.2.2 (.int (f q.2.1 v))))
  | _ => none
def sAugI (i : Nat) (f : Int → Int → Int) (ke e : Den) : DenS := fun ρ R => (ofO (valAt ρ i) R).bind fun x R0 => (ke ρ R0).bind fun k R1 => (ofO (augI f x k) R1).bind fun q R2 => (e ρ R2).bind fun v R3 => (ofO (augV f q v) R3).bind fun d R4 => .ok (.nx (ρ.set i (some d))) R4
theorem ds_augI (i : Nat) {x : Str} {k e : Expr} {dk d : Den} {op : Operator} {f : Int → Int → Int} {p1 tpos : Pos} (ho : PIp X op (ipI f)) (h : DE X c E e d) (hk : DE X c E k dk) (hO : i ∈ O := by decide) (hN : X.N[i]? = some x := by rfl) (hv : Vis X.env.scope x := by first | exact Or.inl rfl | exact Or.inr (Or.inl rfl) | exact Or.inr (Or.inr rfl)) (hd : (x == ("__debug__" : Str)) = false := by decide) (hcd : (x == ("__classdict__" : Str)) = false := by decide)
    (ha : ∀ ov iv new, augStore k ov iv new = (do holding [new, ov, iv] (setItem ov iv new); release [new, ov, iv] []; pure .next) := by intros; rfl) :
    DS X c E OL O O (.AugAssign (.Subscript (.Name x p1) k tpos) op e pos) (sAugI i f dk d) := by
  refine PS.imp (ps_augS (pe_var hN hv hd hcd) hk get_listP h ho set_list ha) fun D σ H ⟨a0, S, H0, Vi, ρ, R, st, p⟩ => ?_
  obtain ⟨x0, hx, p⟩ := Ends.ofO (Ends.bind p)
  obtain ⟨A, sa, h1, h2⟩ := id st
  obtain ⟨a, hA, hσ, ho⟩ := sa.find h1 hO (join_some hx)
  refine ⟨.ref a, hσ, ?_⟩
  refine tD_st st (Ends.bind p) fun kd R1 p kv H1 w1 st1 r1 => ?_
  obtain ⟨q, hq, p⟩ := Ends.ofO (Ends.bind p)
  cases x0 with
  | list ds =>
    cases kd with
    | int i0 =>
      have hq : (if 0 ≤ i0 then (ixN ds.length i0).bind fun j => match ds[j]? with
        | some (.int o) => some (ds, o, j)
        | _ => none
        else none) = some q := hq
      split at hq
      · rename_i h0
        obtain ⟨j, hj, hq⟩ := Option.bind_eq_some_iff.mp hq
        split at hq
        · rename_i o hoj
          cases hq
          obtain ⟨A1, sa1, h11, h21⟩ := id st1
          obtain ⟨a1, hA1, hσ1, xs, hH1, rA⟩ := sa1.find h11 hO (join_some hx)
          rw [hσ] at hσ1
          cases hσ1
          have := r1.int_inv; subst kv
          have hjj : atI ds i0 = some (PyData.int o) := by
            unfold atI
            rw [hj]
            exact hoj
          obtain ⟨z, e1, e2⟩ := rA.atI hjj
          have := e2.int_inv; subst z
          refine ⟨a, xs, i0, .int o, rfl, rfl, .inl (.inl hH1), h0, e1, ?_⟩
          refine tD_st st1 (Ends.bind p) fun v R3 p vv H3 w3 st3 r3 => ?_
          obtain ⟨d', hd', q⟩ := Ends.ofO (Ends.bind p)
          obtain ⟨A3, sa3, h13, h23⟩ := id st3
          obtain ⟨a3, hA3, hσ3, xs3, hH3, rA3⟩ := sa3.find h13 hO (join_some hx)
          rw [hσ] at hσ3
          cases hσ3
          cases v with
          | int v =>
            cases hd'
            have := r3.int_inv; subst vv
            refine ⟨o, _, rfl, rfl, a, xs3, i0, j, rfl, rfl, hH3, by rw [rA3.length]; exact hj, ?_⟩
            exact q σ _ (StOk.write sa3 h13 h23 hA3 ⟨_, upd_same, rA3.set (.int _) j⟩)
          | _ => cases hd'
        · cases hq
      · cases hq
    | _ => cases hq
  | _ => cases hq
/-- list(range(..)) -/
def rngN : List PyData → Option (List PyData)
  | [.int j] => if -1000000 ≤ j ∧ j ≤ 1000000 then some (rangeL 0 j.toNat) else none
  | [.int i, .int j] => if (-1000000 ≤ i ∧ i ≤ 1000000) ∧ (-1000000 ≤ j ∧ j ≤ 1000000) then some (rangeL i (j - i).toNat) else none
  | _ => none
theorem rg_rep {K : PySem.W.Frag} {a0 : Addr} {H : Hp} (a b : Int) : RepA K a0 H (rgV a b) (rangeL a (b - a).toNat) := by
  have := RepA.ints (K := K) (a0 := a0) (H := H) ((List.range (b - a).toNat).map fun j : Nat => (a + (j : Int)))
  rw [List.map_map, List.map_map] at this
  exact this
theorem rg_ok {a b : Int} (h1 : -1000000 ≤ a ∧ a ≤ 1000000) (h2 : -1000000 ≤ b ∧ b ≤ 1000000) : RgOk a b := ⟨by omega, by omega, by omega, by omega, by omega⟩
theorem rng_one {d : Den} {ρ : Env} {R : Row} : nBlt rngN (lCons d lNil) ρ R = (d ρ R).bind fun x R1 => ofO (rngN [x]) R1 := by
  show ((d ρ R).bind _).bind _ = _
  cases d ρ R <;> rfl
theorem rng_two {da db : Den} {ρ : Env} {R : Row} : nBlt rngN (lCons da (lCons db lNil)) ρ R = (da ρ R).bind fun x R1 => (db ρ R1).bind fun y R2 => ofO (rngN [x, y]) R2 := by
  show ((da ρ R).bind _).bind _ = _
  cases da ρ R with
  | ok x R1 =>
    show (((db ρ R1).bind _).bind _).bind _ = (db ρ R1).bind _
    cases db ρ R1 <;> rfl
  | _ => rfl
theorem dn_listR1 {a : Expr} {d : Den} {p p2 pos2 : Pos} (hc : X.calm = true) (ha : DE X c E a d) (hm : X.mg "list" = none) (hmr : X.mg "range" = none) (hg : Gl X "list" := by rfl) (hgr : Gl X "range" := by rfl) (na : starEach [a] X.env = (false, eval a X.env) :: starEach [] X.env := by rfl) (na2 : starEach [.Call (.Name "range" p2) [a] [] pos2] X.env = (false, eval (.Call (.Name "range" p2) [a] [] pos2) X.env) :: starEach [] X.env := by rfl) :
    DN X c E (.Call (.Name "list" p) [.Call (.Name "range" p2) [a] [] pos2] [] pos) (nBlt rngN (lCons d lNil)) := by
  refine PE.imp (pe_listRg hc hg hm (prg_1 hgr hmr ha na) na2) fun σ H Q ⟨a0, S, ρ, R, w, en, p⟩ => ?_
  rw [rng_one] at p
  refine tD_of w en (ends_next p fun x R1 p v H1 w1 r1 => ?_)
  obtain ⟨out, ho, q⟩ := Ends.ofO p
  cases x with
  | int j =>
    have ho : (if -1000000 ≤ j ∧ j ≤ 1000000 then some (rangeL 0 j.toNat) else none) = some out := ho
    split at ho
    · rename_i h
      cases ho
      have := r1.int_inv; subst v
      refine ⟨_, rfl, rg_ok (by omega) h, fun l hl => q _ _ _ (w1.fr hl) (w1.trans (w1.here.new hl)) upd_same ?_⟩
      have := rg_rep (K := X.K) (a0 := a0) (H := hide (upd H1 l (.lst (rgV 0 j))) (l :: S)) 0 j
      rw [Int.sub_zero] at this
      exact this
    · cases ho
  | _ => cases ho
theorem dn_listR2 {a b : Expr} {da db : Den} {p p2 pos2 : Pos} (hc : X.calm = true) (ha : DE X c E a da) (hb : DE X c E b db) (hm : X.mg "list" = none) (hmr : X.mg "range" = none) (hg : Gl X "list" := by rfl) (hgr : Gl X "range" := by rfl) (na : starEach [a, b] X.env = (false, eval a X.env) :: starEach [b] X.env := by rfl) (nb : starEach [b] X.env = (false, eval b X.env) :: starEach [] X.env := by rfl) (hp : (backTo pos2 (starEach [b] X.env)).any (·.1) = false := by rfl) (na2 : starEach [.Call (.Name "range" p2) [a, b] [] pos2] X.env = (false, eval (.Call (.Name "range" p2) [a, b] [] pos2) X.env) :: starEach [] X.env := by rfl) :
    DN X c E (.Call (.Name "list" p) [.Call (.Name "range" p2) [a, b] [] pos2] [] pos) (nBlt rngN (lCons da (lCons db lNil))) := by
  refine PE.imp (pe_listRg hc hg hm (prg_2 hgr hmr ha hb na nb hp) na2) fun σ H Q ⟨a0, S, ρ, R, w, en, p⟩ => ?_
  rw [rng_two] at p
  refine tD_of w en (ends_next p fun x R1 p v H1 w1 r1 => ?_)
  refine tD_of w1.here (en.mono w1.sub) (ends_back w1 (ends_next p fun y R2 q => q) fun y R2 p u H2 w2 r2 => ?_)
  obtain ⟨out, ho, q⟩ := Ends.ofO p
  cases x with
  | int i =>
    cases y with
    | int j =>
      have ho : (if (-1000000 ≤ i ∧ i ≤ 1000000) ∧ (-1000000 ≤ j ∧ j ≤ 1000000) then some (rangeL i (j - i).toNat) else none) = some out := ho
      split at ho
      · rename_i h
        cases ho
        have := r1.int_inv; subst v
        have := r2.int_inv; subst u
        exact ⟨_, _, rfl, rfl, rg_ok h.1 h.2, fun l hl => q _ _ _ ((w1.trans w2).fr hl) ((w1.trans w2).trans (w2.here.new hl)) upd_same (rg_rep _ _)⟩
      · cases ho
    | _ => cases ho
  | _ => cases ho
end
end Ev

/-! Ev: sorted(set(..)), len(set(..)) of whole numbers -/
namespace Ev
open PySem PySem.Spec PyProof.Rows L2
/-- a new, empty set -/
def nob (w : World) : Obj := { cls := .type "set", dict := none, data := .set #[] 0 (.fresh 0 0 (!w.params.followText "set-order")) }
section
variable {P : Program} {w : World} {A : Around} {E : Value → Shared → Prop} {s : Shared}
/-- what set(xs) leaves: a set of these, all else as it was -/
def Made (w : World) (s : Shared) (ns : List Int) (h' : Heap) (c : Nat) : Prop := SetR w h' s.heap.objs.size (fun j => decide (j ∈ ns)) c ∧ c ≤ ns.length ∧ ∀ b o, s.heap.get? b = some o → h'.get? b = some o
theorem set_of_list {l : Addr} {its : Array Value} (ns : List Int) {Q : Value → Shared → Prop} (hh : A.handled = none) (hl : s.heap.IsList l its) (hi : IntsAre its.toList ns) (hb : ns.length + 1 < scanBound)
    (k : ∀ h' tk c, Made w s ns h' c → Q (.ref s.heap.objs.size) { s with heap := h', toks := tk }) : wpAny (model P w) A (call (.type "set") [.ref l]) Q E s := by
  have hz : its.size = ns.length := by rw [← Array.length_toList]; exact IntsAre.length hi
  obtain ⟨cc, tt, hmr⟩ := F.called_set.mro
  have hm1 := F.called_set.made
  have hm2 := F.called_set.sub
  have hm3 := F.called_set.notType
  have hm4 := F.called_set.canCreate
  have hm5 := F.typeCall_set_1 (.ref l)
  refine wpAny_call (codeAny_of_tree ?_)
  show wpAny _ _ (callAny (.type "set") _) _ _ _
  refine wpAny_pure ⟨Code.quiet_builtin _ (by decide +kernel), codeAny_builtin F.entry_type_call ?_⟩
  rw [Around.under_plain (weight_type_call_type "set" [.ref l] []) rfl]
  repeat (any_goals (first | assumption | wp_step))
  refine codeAny_mono (code_set_led1 (.ref l) (E := E) (Q₁ := fun ob t => ob = .ref s.heap.objs.size ∧ t = { s with heap := s.heap.push (nob w) }) ⟨rfl, rfl⟩) fun r t hr => ?_
  match r, hr with
  | .error e, hr => exact hr
  | .ok (.ret ob), hr =>
    obtain ⟨rfl, rfl⟩ := hr
    have g0 : (s.heap.push (nob w)).get? s.heap.objs.size = some (nob w) := Heap.get?_push_size _ rfl
    have gT : Shared.TypeIs { s with heap := s.heap.push (nob w) } (.ref s.heap.objs.size) "set" := ⟨_, g0, rfl⟩
    have hq1 := F.called_set.init.lookup
    have hq2 := F.called_set.init.bind (.ref s.heap.objs.size)
    repeat (any_goals (first | assumption | wp_step))
    refine codeAny_mono (codeAny_call_builtin (R := wants (fun r t => r = .none ∧ ∃ h' tk c, t = { s with heap := h', toks := tk } ∧ Made w s ns h' c) E) F.called_set.init.plain F.entry_set_init (check_set_init_1 gT ?_)) fun r t hr => ?_
    · have z1 : (s.heap.push (nob w)).objs.size = s.heap.objs.size + 1 := Heap.size_push ..
      have zl : l < s.heap.objs.size := by obtain ⟨o, ho, _⟩ := hl; exact Heap.lt_size ho
      obtain ⟨ol, hol, hcl, nl, hdl⟩ := hl
      obtain ⟨ocls, odict, odata, oslots⟩ := ol
      simp only at hcl hdl
      subst hcl; subst hdl
      have gl : (s.heap.push (nob w)).get? l = _ := Heap.get?_push_of_some _ hol
      have il : (s.heap.push (nob w)).IsList l its := ⟨_, gl, rfl, nl, rfl⟩
      have n1 := F.sub_list_set
      have n2 := F.sub_list_frozenset
      have n3 : (Value.type "list" == Value.type "dict") = false := by decide
      unfold Builtin.«set.__init__» noKeywords Builtin.Frozenset.updateFrom
      generalize hPI : pyIter = PI
      wp_walk
      subst hPI
      refine wpAny_pyIter_list il (wpAny_bind (wpAny_runValue ?_))
      have nI : l ≠ (s.heap.push (nob w)).objs.size := fun h => absurd (h.trans z1) (Nat.ne_of_lt (Nat.lt_succ_of_lt zl))
      have nS : s.heap.objs.size ∉ [(s.heap.push (nob w)).objs.size, l] := by
        intro h
        rcases List.mem_cons.mp h with h | h
        · exact absurd (h.trans z1) (Nat.ne_of_lt (Nat.lt_succ_self _))
        · exact absurd (List.mem_singleton.mp h) (Nat.ne_of_gt zl)
      refine set_update_ints ((Walks.list (by simp [hh]) _ l nI its).toS) s.heap.objs.size nS ns hz hb (fun i v hv => ?_) (its.size - 0) 0 _ (by omega) (Nat.zero_le _) ⟨⟨_, Heap.get?_push_size _ rfl, rfl, rfl⟩, il.push _⟩ ⟨0, Nat.le_refl 0, setR_new_at (Heap.get?_push_of_some _ g0)⟩ fun t c hm hc hS => ?_
      · have hlt : i < ns.length := by rw [← hz]; exact (Array.getElem?_eq_some_iff.mp hv).1
        obtain ⟨tk, ev⟩ := hi.int_at i v (by rw [Array.getElem?_toList]; exact hv)
        exact ⟨ns[i], tk, List.getElem?_eq_getElem hlt, by rw [ev, List.getD_eq_getElem?_getD, List.getElem?_eq_getElem hlt]; rfl⟩
      · obtain ⟨h', g', d', tk', os'⟩ := t
        have e1 : g' = s.gens := hm.gens
        have e2 : d' = s.drawn := hm.drawn
        have e3 : os' = s.os := hm.os
        subst e1 e2 e3
        refine wpAny_pure (wpAny_pure ⟨rfl, h', tk', c, rfl, hS, by omega, fun b o eo => ?_⟩)
        have hlt : b < s.heap.objs.size := Heap.lt_size eo
        refine hm.heap b o (fun h => ?_) (Heap.get?_push_of_some _ (Heap.get?_push_of_some _ eo))
        rcases List.mem_cons.mp h with h | h
        · exact absurd h (Nat.ne_of_lt hlt)
        · exact absurd ((List.mem_singleton.mp h).trans z1) (Nat.ne_of_lt (Nat.lt_succ_of_lt hlt))
    · match r, hr with
      | .error e, hr => exact hr
      | .ok (.ret r), hr =>
        obtain ⟨rfl, h', tk, c, rfl, hM⟩ := hr
        repeat (any_goals (first | assumption | wp_step))
        exact k _ _ _ hM
end
end Ev

/-! Ev: sorted(set(..)), len(set(..)) in the evaluator -/
namespace Ev
open PySem PySem.Spec PyProof.Rows L2
/-! ### in the evaluator -/
/-- ns, rising, each once -/
def insI (x : Int) : List Int → List Int
  | [] => [x]
  | y :: ys => if x < y then x :: y :: ys else if x = y then y :: ys else y :: insI x ys
def sSet (ns : List Int) : List Int := ns.foldr insI []
theorem mem_insI {x z : Int} : ∀ {l : List Int}, z ∈ insI x l ↔ z = x ∨ z ∈ l
  | [] => by simp [insI]
  | y :: ys => by
    unfold insI
    split
    · simp
    · split
      · rename_i e; subst e; simp
      · rw [List.mem_cons, mem_insI, List.mem_cons]
        constructor
        · rintro (h | h | h)
          · exact Or.inr (Or.inl h)
          · exact Or.inl h
          · exact Or.inr (Or.inr h)
        · rintro (h | h | h)
          · exact Or.inr (Or.inl h)
          · exact Or.inl h
          · exact Or.inr (Or.inr h)
theorem pw_insI {x : Int} : ∀ {l : List Int}, l.Pairwise (· < ·) → (insI x l).Pairwise (· < ·)
  | [], _ => by simp [insI]
  | y :: ys, h => by
    have h' := List.pairwise_cons.mp h
    unfold insI
    split
    · rename_i hx
      exact List.pairwise_cons.mpr ⟨fun z hz => by rcases List.mem_cons.mp hz with rfl | hz; exact hx; exact Int.lt_trans hx (h'.1 z hz), h⟩
    · split
      · exact h
      · refine List.pairwise_cons.mpr ⟨fun z hz => ?_, pw_insI h'.2⟩
        rcases mem_insI.mp hz with rfl | hz
        · omega
        · exact h'.1 z hz
theorem mem_sSet {z : Int} : ∀ {ns : List Int}, z ∈ sSet ns ↔ z ∈ ns
  | [] => Iff.rfl
  | x :: ns => by
    show z ∈ insI x (sSet ns) ↔ _
    rw [mem_insI, mem_sSet, List.mem_cons]
theorem pw_sSet : ∀ ns : List Int, (sSet ns).Pairwise (· < ·)
  | [] => List.Pairwise.nil
  | x :: ns => pw_insI (pw_sSet ns)
theorem len_insI (x : Int) : ∀ l : List Int, (insI x l).length ≤ l.length + 1
  | [] => Nat.le_refl _
  | y :: ys => by
    unfold insI
    have := len_insI x ys
    split
    · simp
    · split
      · simp
      · simp; omega
theorem len_sSet : ∀ ns : List Int, (sSet ns).length ≤ ns.length
  | [] => Nat.le_refl _
  | x :: ns => by
    have := len_sSet ns
    have := len_insI x (sSet ns)
    show (insI x (sSet ns)).length ≤ ns.length + 1
    omega
/-- rising lists of the same members are one -/
theorem pw_ext : ∀ {l m : List Int}, l.Pairwise (· < ·) → m.Pairwise (· < ·) → (∀ z, z ∈ l ↔ z ∈ m) → l = m
  | [], [], _, _, _ => rfl
  | [], y :: m, _, _, h => absurd ((h y).mpr List.mem_cons_self) (fun h => nomatch h)
  | x :: l, [], _, _, h => absurd ((h x).mp List.mem_cons_self) (fun h => nomatch h)
  | x :: l, y :: m, hl, hm, h => by
    have h1 := List.pairwise_cons.mp hl
    have h2 := List.pairwise_cons.mp hm
    have e : x = y := by
      rcases List.mem_cons.mp ((h x).mp List.mem_cons_self) with e | e
      · exact e
      · rcases List.mem_cons.mp ((h y).mpr List.mem_cons_self) with e' | e'
        · exact e'.symm
        · have := h2.1 x e
          have := h1.1 y e'
          omega
    subst e
    congr 1
    refine pw_ext h1.2 h2.2 fun z => ?_
    constructor
    · intro hz
      rcases List.mem_cons.mp ((h z).mp (List.mem_cons_of_mem _ hz)) with e | e
      · have := h1.1 z hz; omega
      · exact e
    · intro hz
      rcases List.mem_cons.mp ((h z).mpr (List.mem_cons_of_mem _ hz)) with e | e
      · have := h2.1 z hz; omega
      · exact e
/-- the whole numbers of a list or a tuple, at most sixty -/
def isI : PyData → Bool
  | .int _ => true
  | _ => false
def toI : PyData → Int
  | .int i => i
  | _ => 0
def intsO (ds : List PyData) : Option (List Int) := if ds.all isI && decide (ds.length ≤ 60) then some (ds.map toI) else none
def setI : List PyData → Option (List Int)
  | [.list ds] => intsO ds
  | [.tuple ds] => intsO ds
  | _ => none
theorem intsO_s {ds : List PyData} {ns : List Int} (h : intsO ds = some ns) : ds = ns.map PyData.int ∧ ns.length ≤ 60 := by
  unfold intsO at h
  split at h
  · rename_i c
    rw [Bool.and_eq_true, List.all_eq_true, decide_eq_true_iff] at c
    cases h
    refine ⟨?_, by simpa using c.2⟩
    rw [List.map_map]
    refine (List.map_id ds).symm.trans (List.map_congr_left fun d hd => ?_)
    have := c.1 d hd
    cases d <;> first | rfl | cases this
  · cases h
section
variable {X : Cx} {c : Cfg} {E : XK} {pos : Pos}
def rSetI (K : PySem.W.Frag) (w : World) (c : Cfg) : List V → Hp → VK → Prop := fun xs H Q => ∃ a0 S R ds ns, Wd K c a0 S H H R ∧ RepA K a0 (hide H S) xs ds ∧ setI ds = some ns ∧
  ∀ p n, H p = none → n = (sSet ns).length → ns.length ≤ 60 → Wd K c a0 S H (upd H p (SetO w p (fun j => decide (j ∈ ns)) n)) R → Q (.ref p) (upd H p (SetO w p (fun j => decide (j ∈ ns)) n))
theorem set_count {w : World} {h : Heap} {a : Addr} {ns : List Int} {n : Nat} (R : SetR w h a (fun j => decide (j ∈ ns)) n) : n = (sSet ns).length := by
  obtain ⟨o, es, ep, t, _, _, _, _, nd, hm, _, _, hn, _⟩ := R
  have p1 : (es.toList.map keyOf).Perm (sSet ns) := (List.perm_ext_iff_of_nodup nd ((pw_sSet ns).imp fun h e => by omega)).mpr fun k => by
    rw [mem_sSet, ← hm k, decide_eq_true_iff]
  have := p1.length_eq
  rw [List.length_map, Array.length_toList, hn] at this
  exact this
theorem repA_ints {K : PySem.W.Frag} {a0 : Addr} {H : Hp} : ∀ {ns : List Int} {vs : List V}, RepA K a0 H vs (ns.map PyData.int) → vs = ns.map V.int
  | [], _, .nil => rfl
  | n :: ns, _, .cons r t => by rw [r.int_inv, repA_ints t]; rfl
theorem cr_setI (hc : X.calm = true) : CallR X (.type "set") (rSetI X.K X.w c) := by
  rintro pins s σ H xs us Q I rv ⟨a0, S, R, ds, ns, w, r, e, k⟩
  have hp : H s.heap.objs.size = none := I.hok.fresh (Nat.le_refl _)
  have fin : ∀ h' tk cc, ns.length ≤ 60 → Made X.w s ns h' cc → EP X pins σ Q (.ref s.heap.objs.size) { s with heap := h', toks := tk } := fun h' tk cc h60 hM =>
    ⟨.ref _, _, I.laid (t' := tk) hM.2.2 (Nat.le_refl _) (setO_new hM.1), rfl, k _ _ hp (set_count hM.1) h60 (w.new hp)⟩
  unfold setI at e
  split at e
  · obtain ⟨e1, e2⟩ := intsO_s e
    subst e1
    obtain ⟨v, rfl, r1⟩ := repA_one r
    obtain ⟨a, vs, rfl, h, rA⟩ := r1.list_inv
    have ev := repA_ints rA
    subst ev
    obtain ⟨its, rvs, hl, _⟩ := I.list (.inl (.inl (of_hide h).2))
    rw [Vals.ref1 rv]
    exact set_of_list ns (I.ok.hd hc) hl.isList rvs.ints (by unfold scanBound; omega) fun h' tk cc hM => fin h' tk cc e2 hM
  · obtain ⟨e1, e2⟩ := intsO_s e
    subst e1
    obtain ⟨v, rfl, r1⟩ := repA_one r
    obtain ⟨a, vs, rfl, h, rA⟩ := r1.tup_inv
    have ev := repA_ints rA
    subst ev
    obtain ⟨its, rvs, hl, _⟩ := I.tuple (.inl (.inl (of_hide h).2))
    rw [Vals.ref1 rv]
    exact call_set_tupI ns (I.ok.hd hc) hl rvs.ints (by unfold scanBound; omega) fun h' tk cc h1 h2 h3 => fin h' tk cc e2 ⟨h1, h2, h3⟩
  · cases e
/-- len of a set of ints -/
def rLenSet (w : World) : List V → Hp → VK → Prop := fun vs H Q => ∃ (a : Addr) (S : Int → Bool) (n : Nat), vs = [V.ref a] ∧ H a = some (SetO w a S n) ∧ n < 64 ∧ Q (.int n) H
theorem cr_lenSet : CallR X (.builtin "len") (rLenSet X.w) := by
  rintro pins s σ H vs us Q I r ⟨a, S, n, rfl, ha, h64, q⟩
  obtain ⟨o, es, ep, t, ho, hx, hd, _, _, _, _, hf, hn, _⟩ := setO_get I ha
  rw [Vals.ref1 r]
  exact call_len_set ho hx hd hf (by rw [hn]; omega) ⟨.int n, H, I.tok _, ⟨_, by rw [hn]⟩, q⟩
/-- set(e), then f of it -/
theorem pe_set {x : Expr} {d : Den} {p : Pos} (hc : X.calm = true) (h : DE X c E x d) (hm : X.mg "set" = none) (hg : Gl X "set" := by rfl) (he : starEach [x] X.env = (false, eval x X.env) :: starEach [] X.env := by rfl) :
    PE X (.Call (.Name "set" p) [x] [] pos) (tCB (rSetI X.K X.w c) (tDL X.K c E (lCons d lNil))) := pe_callTy (cr_setI hc) hg hm boot_set (das_cons h das_nil he) (he := he)
def sortSetD : List PyData → Option (List PyData) := fun ds => (setI ds).map fun ns => (sSet ns).map PyData.int
def lenSetD : List PyData → Option PyData := fun ds => (setI ds).map fun ns => .int (sSet ns).length
theorem dn_sortSet {x : Expr} {d : Den} {p p2 q : Pos} (hc : X.calm = true) (h : DE X c E x d) (hm : X.mg "sorted" = none) (hm2 : X.mg "set" = none) (hg : Gl X "sorted" := by rfl) (hg2 : Gl X "set" := by rfl)
    (he : starEach [x] X.env = (false, eval x X.env) :: starEach [] X.env := by rfl) (he2 : starEach [Expr.Call (.Name "set" p2) [x] [] q] X.env = (false, eval (.Call (.Name "set" p2) [x] [] q) X.env) :: starEach [] X.env := by rfl) :
    DN X c E (.Call (.Name "sorted" p) [.Call (.Name "set" p2) [x] [] q] [] pos) (nBlt sortSetD (lCons d lNil)) := by
  refine PE.imp (pe_callB (cr_sortedSet hc) hg hm boot_sorted (pa_cons (pe_set hc h hm2 hg2 he) pa_nil he2) (he := he2)) fun σ H Q ⟨a0, S, ρ, R, w, en, p⟩ => ?_
  refine tDL_of w en (ends_next p fun ds R1 p vs H1 w1 r1 => ?_)
  obtain ⟨out, e, q⟩ := Ends.ofO p
  obtain ⟨ns, e1, rfl⟩ := Option.map_eq_some_iff.mp e
  refine ⟨a0, S, R1, ds, ns, w1.here, r1, e1, fun p n hp hn h60 w2 => ?_⟩
  have hl := len_sSet ns
  refine ⟨p, _, n, rfl, upd_same, by omega, fun ms p2 pw hmem hlen hp2 => ?_⟩
  have em : ms = sSet ns := pw_ext pw (pw_sSet ns) fun z => by rw [hmem, mem_sSet, decide_eq_true_iff]
  subst em
  refine q p2 _ _ (fun o eo n => ?_) ((w1.trans w2).trans (w2.here.new hp2)) upd_same (RepA.ints _)
  by_cases ea : p2 = a0
  · subst ea
    obtain ⟨sc, h1, _⟩ := (w1.trans w2).row
    rw [hp2] at h1
    cases h1
  · have := (w1.trans w2).gr p2 o ea eo n
    rw [hp2] at this
    cases this
theorem de_lenSet {x : Expr} {d : Den} {p p2 q : Pos} (hc : X.calm = true) (h : DE X c E x d) (hm : X.mg "len" = none) (hm2 : X.mg "set" = none) (hg : Gl X "len" := by rfl) (hg2 : Gl X "set" := by rfl)
    (he : starEach [x] X.env = (false, eval x X.env) :: starEach [] X.env := by rfl) (he2 : starEach [Expr.Call (.Name "set" p2) [x] [] q] X.env = (false, eval (.Call (.Name "set" p2) [x] [] q) X.env) :: starEach [] X.env := by rfl) :
    DE X c E (.Call (.Name "len" p) [.Call (.Name "set" p2) [x] [] q] [] pos) (dBlt lenSetD (lCons d lNil)) := by
  refine PE.imp (pe_callB cr_lenSet hg hm boot_len (pa_cons (pe_set hc h hm2 hg2 he) pa_nil he2) (he := he2)) fun σ H Q ⟨a0, S, ρ, R, w, en, p⟩ => ?_
  refine tDL_of w en (ends_next p fun ds R1 p vs H1 w1 r1 => ?_)
  obtain ⟨out, e, q⟩ := Ends.ofO p
  obtain ⟨ns, e1, rfl⟩ := Option.map_eq_some_iff.mp e
  refine ⟨a0, S, R1, ds, ns, w1.here, r1, e1, fun p n hp hn h60 w2 => ?_⟩
  have hl := len_sSet ns
  subst hn
  exact ⟨p, _, _, rfl, upd_same, by omega, q _ _ (w1.trans w2) (.int _)⟩
end
end Ev

namespace K20
open PySem PySem.Spec PyProof.Rows L2 Ev LamX
def top (i : Nat) : Stmt := PySem.Challenge.pw_logsawn_k20_whole_felled_trees.main.body.getD i (.Pass ⟨0, 0, 0, 0⟩)
section
variable {P : Program} {w : World} {K : PySem.W.Frag} {mg : Str → Option Value} {base : Heap} {c : Cfg}
abbrev s_require : Stmt := top 3
def den_require : DenS :=
    (sIf (bNot (dTB (dVar 0)))
      (sRaise (dVar 1))
      sNext)
def F_require : List PyData → Ev.Row → Res PyData := callF 0 den_require
theorem sc_require : FnScope ["is_right", "name"] ["is_right", "name"] (defScope s_require) := ⟨rfl, rfl, rfl, by decide +kernel, rfl, by decide +kernel, by decide +kernel⟩
theorem nd_require : (["is_right", "name"] : List Str).Nodup := by decide +kernel
theorem w_require (bl : Blts mg) (B : Bad P w K mg base c.CB) {f : Addr} {fd : FuncData} {cdv : Value} (F : FunC K "require" s_require f fd cdv) (hm : mg "require" = some (.ref f)) : Fn P w K mg base c 3 "require" ["is_right", "name"] F_require :=
  fn_body (OL := []) F sc_require hm rfl (fun _ _ _ _ _ _ us hl => match us, hl with | [_, _], _ => rfl) (fun _ _ _ _ _ _ us ws ks h1 h2 h3 => match us, ws, h2 with | [], [_, _], _ => by subst h1; rfl | [_], [_], _ => by subst h1; rfl | [_, _], [], _ => absurd rfl h3) fun A outer s H E hr => have nd := nd_require; (dss_one (ds_if (dt_not (dt_val (de_var 0)))
      (dss_one (ds_raise (O' := []) B rfl hr (by decide) (cx_takes (CX0 := 0)) (de_var 1)))
      dss_nil))
abbrev s_is_whole : Stmt := top 4
def den_is_whole : DenS :=
    (sRet (dAnd (dUn (isiD "int") (dVar 0)) (dAnd (dNot (dUn (isiD "bool") (dVar 0))) (dChain (cmpD fun i j => decide (i ≤ j)) (cmpD fun i j => decide (i ≤ j)) (dVar 1) (dVar 0) (dVar 2)))))
def F_is_whole : List PyData → Ev.Row → Res PyData := callF 0 den_is_whole
theorem sc_is_whole : FnScope ["value", "least", "most"] ["value", "least", "most"] (defScope s_is_whole) := ⟨rfl, rfl, rfl, by decide +kernel, rfl, by decide +kernel, by decide +kernel⟩
theorem nd_is_whole : (["value", "least", "most"] : List Str).Nodup := by decide +kernel
theorem w_is_whole (bl : Blts mg)  {f : Addr} {fd : FuncData} {cdv : Value} (F : FunC K "is_whole" s_is_whole f fd cdv) (hm : mg "is_whole" = some (.ref f)) : Fn P w K mg base c 1 "is_whole" ["value", "least", "most"] F_is_whole :=
  fn_body (OL := []) F sc_is_whole hm rfl (fun _ _ _ _ _ _ us hl => match us, hl with | [_, _, _], _ => rfl) (fun _ _ _ _ _ _ us ws ks h1 h2 h3 => match us, ws, h2 with | [], [_, _, _], _ => by subst h1; rfl | [_], [_, _], _ => by subst h1; rfl | [_, _], [_], _ => by subst h1; rfl | [_, _, _], [], _ => absurd rfl h3) fun A outer s H E hr => have nd := nd_is_whole; (dss_one (ds_ret (O1 := []) (de_and (de_isi (T := "int") (de_var 0) bl.isinstance bl.int) (de_and (de_not (de_isi (T := "bool") (de_var 0) bl.isinstance bl.bool)) (de_one (de_chain cmD_le cmD_le (de_var 1) (de_var 0) (de_var 2)))))))
abbrev s_is_row : Stmt := top 5
def den_is_row : DenS :=
    (sRet (dAnd (dUn (isiD "tuple") (dVar 0)) (dChain (cmpD fun i j => decide (i ≤ j)) (cmpD fun i j => decide (i ≤ j)) (dVar 1) (dBlt lenD (lCons (dVar 0) lNil)) (dVar 2))))
def F_is_row : List PyData → Ev.Row → Res PyData := callF 0 den_is_row
theorem sc_is_row : FnScope ["value", "least", "most"] ["value", "least", "most"] (defScope s_is_row) := ⟨rfl, rfl, rfl, by decide +kernel, rfl, by decide +kernel, by decide +kernel⟩
theorem nd_is_row : (["value", "least", "most"] : List Str).Nodup := by decide +kernel
theorem w_is_row (bl : Blts mg)  {f : Addr} {fd : FuncData} {cdv : Value} (F : FunC K "is_row" s_is_row f fd cdv) (hm : mg "is_row" = some (.ref f)) : Fn P w K mg base c 1 "is_row" ["value", "least", "most"] F_is_row :=
  fn_body (OL := []) F sc_is_row hm rfl (fun _ _ _ _ _ _ us hl => match us, hl with | [_, _, _], _ => rfl) (fun _ _ _ _ _ _ us ws ks h1 h2 h3 => match us, ws, h2 with | [], [_, _, _], _ => by subst h1; rfl | [_], [_, _], _ => by subst h1; rfl | [_, _], [_], _ => by subst h1; rfl | [_, _, _], [], _ => absurd rfl h3) fun A outer s H E hr => have nd := nd_is_row; (dss_one (ds_ret (O1 := []) (de_and (de_isi (T := "tuple") (de_var 0) bl.isinstance bl.tuple) (de_one (de_chain cmD_le cmD_le (de_var 1) (de_blt blt_len (das_cons (de_var 0) das_nil) bl.len) (de_var 2))))))
abbrev s_are_wholes : Stmt := top 6
def den_are_wholes : DenS :=
    (sRet (dAnd (dCallF F_is_row (lCons (dVar 0) (lCons (dVar 1) (lCons (dVar 1) lNil)))) (dBlt allD (lCons (dLst (nComp (lSeq (dVar 0)) (gSet 4) [4] bYes (dCallF F_is_whole (lCons (dVar 4) (lCons (dVar 2) (lCons (dVar 3) lNil)))))) lNil))))
def F_are_wholes : List PyData → Ev.Row → Res PyData := callF 1 den_are_wholes
theorem sc_are_wholes : FnScope ["value", "many", "least", "most", "own"] ["value", "many", "least", "most"] (defScope s_are_wholes) := ⟨rfl, rfl, rfl, by decide +kernel, rfl, by decide +kernel, by decide +kernel⟩
theorem nd_are_wholes : (["value", "many", "least", "most", "own"] : List Str).Nodup := by decide +kernel
theorem w_are_wholes (bl : Blts mg) (f_is_row : Fn P w K mg base c 1 "is_row" ["value", "least", "most"] F_is_row) (f_is_whole : Fn P w K mg base c 1 "is_whole" ["value", "least", "most"] F_is_whole) {f : Addr} {fd : FuncData} {cdv : Value} (F : FunC K "are_wholes" s_are_wholes f fd cdv) (hm : mg "are_wholes" = some (.ref f)) : Fn P w K mg base c 2 "are_wholes" ["value", "many", "least", "most"] F_are_wholes :=
  fn_body (OL := []) F sc_are_wholes hm rfl (fun _ _ _ _ _ _ us hl => match us, hl with | [_, _, _, _], _ => rfl) (fun _ _ _ _ _ _ us ws ks h1 h2 h3 => match us, ws, h2 with | [], [_, _, _, _], _ => by subst h1; rfl | [_], [_, _, _], _ => by subst h1; rfl | [_, _], [_, _], _ => by subst h1; rfl | [_, _, _], [_], _ => by subst h1; rfl | [_, _, _, _], [], _ => absurd rfl h3) fun A outer s H E hr => have nd := nd_are_wholes; (dss_one (ds_ret (O1 := []) (de_and (de_call f_is_row hr (by decide) cx_pass (das_cons (de_var 0) (das_cons (de_var 1) (das_cons (de_var 1) das_nil))) (len_cons (len_cons (len_cons len_nil)))) (de_one (de_blt (blt_all rfl) (das_cons (DN.de (dn_comp (own := [("own", 4)]) rfl nd (tok_name 4) (di_seq (de_var 0)) rfl rfl (fun s H C cl fp => (dg_name 4 nd)) (fun s H C cl fp => dts_nil) (fun s H C cl fp => (de_call f_is_whole hr (by decide) passL (das_cons (de_var 4) (das_cons (de_var 2) (das_cons (de_var 3) das_nil))) (len_cons (len_cons (len_cons len_nil))))))) das_nil) bl.all)))))
abbrev s_is_stand : Stmt := top 11
def den_is_stand : DenS :=
    (sSeq (sIf (bOr (bNot (dTB (dCallF F_is_row (lCons (dVar 0) (lCons (dC (.int 1)) (lCons (dC (.int 16)) lNil)))))) (bNot (dTB (dBlt allD (lCons (dLst (nComp (lSeq (dVar 0)) (gSet 2) [2] bYes (dCallF F_is_row (lCons (dVar 2) (lCons (dC (.int 2)) (lCons (dC (.int 2)) lNil)))))) lNil)))))
      (sRet (dC (.bool false)))
      sNext)
    (sRet (dBlt allD (lCons (dLst (nComp (lEnum (lCons (dVar 0) lNil)) (gTupD 2 (gsCons (gSet 1) (gsCons (gSet 2) gsNil))) ([1] ++ ([2] ++ [])) bYes (dAnd (dCallF F_is_whole (lCons (dBin idxD (dVar 2) (dC (.int 0))) (lCons (dC (.int (-1))) (lCons (dBin subD (dVar 1) (dC (.int 1))) lNil)))) (dCallF F_is_whole (lCons (dBin idxD (dVar 2) (dC (.int 1))) (lCons (dC (.int 0)) (lCons (dC (.int 999)) lNil))))))) lNil))))
def F_is_stand : List PyData → Ev.Row → Res PyData := callF 2 den_is_stand
theorem sc_is_stand : FnScope ["value", "at", "own"] ["value"] (defScope s_is_stand) := ⟨rfl, rfl, rfl, by decide +kernel, rfl, by decide +kernel, by decide +kernel⟩
theorem nd_is_stand : (["value", "at", "own"] : List Str).Nodup := by decide +kernel
theorem w_is_stand (bl : Blts mg) (f_is_row : Fn P w K mg base c 1 "is_row" ["value", "least", "most"] F_is_row) (f_is_whole : Fn P w K mg base c 1 "is_whole" ["value", "least", "most"] F_is_whole) (c_MOST_TREES : ∃ t, mg "MOST_TREES" = some (.int 16 t)) (c_MOST_WORTH : ∃ t, mg "MOST_WORTH" = some (.int 999 t)) (c_NONE : ∃ t, mg "NONE" = some (.int (-1) t)) {f : Addr} {fd : FuncData} {cdv : Value} (F : FunC K "is_stand" s_is_stand f fd cdv) (hm : mg "is_stand" = some (.ref f)) : Fn P w K mg base c 2 "is_stand" ["value"] F_is_stand :=
  fn_body (OL := []) F sc_is_stand hm rfl (fun _ _ _ _ _ _ us hl => match us, hl with | [_], _ => rfl) (fun _ _ _ _ _ _ us ws ks h1 h2 h3 => match us, ws, h2 with | [], [_], _ => by subst h1; rfl | [_], [], _ => absurd rfl h3) fun A outer s H E hr => have nd := nd_is_stand; (dss_cons (ds_if (DW.dt (dw_or (dt_not (dt_val (de_call f_is_row hr (by decide) cx_pass (das_cons (de_var 0) (das_cons de_int (das_cons (de_glob (i := 16) c_MOST_TREES) das_nil))) (len_cons (len_cons (len_cons len_nil)))))) (dw_or1 (dt_not (dt_val (de_blt (blt_all rfl) (das_cons (DN.de (dn_comp (own := [("own", 2)]) rfl nd (tok_name 2) (di_seq (de_var 0)) rfl rfl (fun s H C cl fp => (dg_name 2 nd)) (fun s H C cl fp => dts_nil) (fun s H C cl fp => (de_call f_is_row hr (by decide) passL (das_cons (de_var 2) (das_cons de_int (das_cons de_int das_nil))) (len_cons (len_cons (len_cons len_nil))))))) das_nil) bl.all))))))
      (dss_one (ds_ret (O1 := []) de_bool))
      dss_nil)
    (dss_one (ds_ret (O1 := []) (de_blt (blt_all rfl) (das_cons (DN.de (dn_comp (own := [("at", 1), ("own", 2)]) rfl nd (tok_tup (toks_cons (tok_name 1) (toks_cons (tok_name 2) toks_nil))) (di_enum (das_cons (de_var 0) das_nil) bl.enumerate) rfl rfl (fun s H C cl fp => (dg_tup rfl (dgs_cons (dg_name 1 nd) (dgs_cons (dg_name 2 nd) dgs_nil)))) (fun s H C cl fp => dts_nil) (fun s H C cl fp => (de_and (de_call f_is_whole hr (by decide) passL (das_cons (de_idx hr.u1 (de_var 2) de_int) (das_cons (de_glob (i := (-1)) c_NONE) (das_cons (de_bin opD_sub (de_var 1) de_int) das_nil))) (len_cons (len_cons (len_cons len_nil)))) (de_one (de_call f_is_whole hr (by decide) passL (das_cons (de_idx hr.u1 (de_var 2) de_int) (das_cons de_int (das_cons (de_glob (i := 999) c_MOST_WORTH) das_nil))) (len_cons (len_cons (len_cons len_nil))))))))) das_nil) bl.all))))
abbrev s_sums_of : Stmt := top 12
def den_sums_of : DenS :=
    (sSeq (sPar [] [2, 3] (lCons (dLst (nComp (lSeq (dVar 0)) (gSet 5) [5] bYes (dBin idxD (dVar 5) (dC (.int 1))))) (lCons (dLst (nBin repN (dLst (nLst (lCons (dC (.int 0)) lNil))) (dBlt lenD (lCons (dVar 0) lNil)))) lNil)))
    (sSeq (sForM [2, 3] (lRange3 (lCons (dBin subD (dBlt lenD (lCons (dVar 0) lNil)) (dC (.int 1))) (lCons (dUn negD (dC (.int 1))) (lCons (dUn negD (dC (.int 1))) lNil)))) (gSet 1)
      (sSeq (sAsgM [2, 3] (gSet 4) (dBin idxD (dBin idxD (dVar 0) (dVar 1)) (dC (.int 0))))
    (sIf (dTB (dBin (cmpD fun i j => decide (j ≤ i)) (dVar 4) (dC (.int 0))))
      (sSeq (sAugI 2 (fun i j => i + j) (dVar 4) (dBin idxD (dVar 3) (dVar 1)))
    (sAugI 3 (fun i j => i + j) (dVar 4) (dBlt max2D (lCons (dBin idxD (dVar 2) (dVar 1)) (lCons (dBin idxD (dVar 3) (dVar 1)) lNil)))))
      sNext)))
    (sRet (dTup (lCons (dVar 2) (lCons (dVar 3) lNil))))))
def F_sums_of : List PyData → Ev.Row → Res PyData := callF 5 den_sums_of
theorem sc_sums_of : FnScope ["stand", "at", "felled", "kept", "ahead", "own"] ["stand"] (defScope s_sums_of) := ⟨rfl, rfl, rfl, by decide +kernel, rfl, by decide +kernel, by decide +kernel⟩
theorem nd_sums_of : (["stand", "at", "felled", "kept", "ahead", "own"] : List Str).Nodup := by decide +kernel
theorem w_sums_of (bl : Blts mg)  {f : Addr} {fd : FuncData} {cdv : Value} (F : FunC K "sums_of" s_sums_of f fd cdv) (hm : mg "sums_of" = some (.ref f)) : Fn P w K mg base c 1 "sums_of" ["stand"] F_sums_of :=
  fn_body (OL := []) F sc_sums_of hm rfl (fun _ _ _ _ _ _ us hl => match us, hl with | [_], _ => rfl) (fun _ _ _ _ _ _ us ws ks h1 h2 h3 => match us, ws, h2 with | [], [_], _ => by subst h1; rfl | [_], [], _ => absurd rfl h3) fun A outer s H E hr => have nd := nd_sums_of; (dss_cons (ds_par [] 2 3 rfl nd (dxs_new (DN.df (dn_comp (own := [("own", 5)]) rfl nd (tok_name 5) (di_seq (de_var 0)) rfl rfl (fun s H C cl fp => (dg_name 5 nd)) (fun s H C cl fp => dts_nil) (fun s H C cl fp => (de_idx hr.u1 (de_var 5) de_int)))) (dxs_new (DN.df (dn_rep (DN.de (dn_lst (das_cons de_int das_nil))) (de_blt blt_len (das_cons (de_var 0) das_nil) bl.len))) dxs_nil)))
    (dss_cons (ds_forM [2, 3] (passes_of rfl) rfl (tok_name 1) (di_range3 (das_cons (de_bin opD_sub (de_blt blt_len (das_cons (de_var 0) das_nil) bl.len) de_int) (das_cons (de_neg de_int) (das_cons (de_neg de_int) das_nil))) bl.range) (dg_name 1 nd)
      (dss_cons (ds_setM [2, 3] 4 nd (de_idx hr.u1 (de_idx hr.u1 (de_var 0) (de_var 1)) de_int))
    (dss_one (ds_if (dt_cmp (dc_cm cmD_ge (de_var 4) de_int))
      (dss_cons (ds_augI 2 ip_add (de_idx hr.u1 (de_var 3) (de_var 1)) (de_var 4))
    (dss_one (ds_augI 3 ip_add (de_blt (blt_max2 rfl) (das_cons (de_idx hr.u1 (de_var 2) (de_var 1)) (das_cons (de_idx hr.u1 (de_var 3) (de_var 1)) das_nil)) bl.max) (de_var 4))))
      dss_nil))))
    (dss_one (ds_ret (O1 := [2, 3]) (de_tup (das_cons (de_var 2) (das_cons (de_var 3) das_nil)))))))
abbrev s_worth : Stmt := top 13
def den_worth : DenS :=
    (sSeq (sExpr (dCallF F_require (lCons (dCallF F_is_stand (lCons (dVar 0) lNil)) (lCons (dC (.str "stand")) lNil))))
    (sSeq (sAsgM [] (gTupD 2 (gsCons (gSet 1) (gsCons (gSet 2) gsNil))) (dCallF F_sums_of (lCons (dVar 0) lNil)))
    (sRet (dBlt sumD (lCons (dLst (nComp (lEnum (lCons (dVar 0) lNil)) (gTupD 2 (gsCons (gSet 3) (gsCons (gSet 4) gsNil))) ([3] ++ ([4] ++ [])) (dTB (dBin (cmpD fun i j => decide (i < j)) (dBin idxD (dVar 4) (dC (.int 0))) (dC (.int 0)))) (dBlt max2D (lCons (dBin idxD (dVar 1) (dVar 3)) (lCons (dBin idxD (dVar 2) (dVar 3)) lNil))))) lNil)))))
def F_worth : List PyData → Ev.Row → Res PyData := callF 4 den_worth
theorem sc_worth : FnScope ["stand", "felled", "kept", "at", "own"] ["stand"] (defScope s_worth) := ⟨rfl, rfl, rfl, by decide +kernel, rfl, by decide +kernel, by decide +kernel⟩
theorem nd_worth : (["stand", "felled", "kept", "at", "own"] : List Str).Nodup := by decide +kernel
theorem w_worth (bl : Blts mg) (f_is_stand : Fn P w K mg base c 2 "is_stand" ["value"] F_is_stand) (f_require : Fn P w K mg base c 3 "require" ["is_right", "name"] F_require) (f_sums_of : Fn P w K mg base c 1 "sums_of" ["stand"] F_sums_of) {f : Addr} {fd : FuncData} {cdv : Value} (F : FunC K "worth" s_worth f fd cdv) (hm : mg "worth" = some (.ref f)) : Fn P w K mg base c 4 "worth" ["stand"] F_worth :=
  fn_body (OL := []) F sc_worth hm rfl (fun _ _ _ _ _ _ us hl => match us, hl with | [_], _ => rfl) (fun _ _ _ _ _ _ us ws ks h1 h2 h3 => match us, ws, h2 with | [], [_], _ => by subst h1; rfl | [_], [], _ => absurd rfl h3) fun A outer s H E hr => have nd := nd_worth; (dss_cons (ds_expr (de_call f_require hr (by decide) cx_pass (das_cons (de_call f_is_stand hr (by decide) cx_pass (das_cons (de_var 0) das_nil) (len_cons len_nil)) (das_cons de_str das_nil)) (len_cons (len_cons len_nil))))
    (dss_cons (ds_asgM [] (tok_tup (toks_cons (tok_name 1) (toks_cons (tok_name 2) toks_nil))) (de_call f_sums_of hr (by decide) cx_pass (das_cons (de_var 0) das_nil) (len_cons len_nil)) (dg_tup rfl (dgs_cons (dg_name 1 nd) (dgs_cons (dg_name 2 nd) dgs_nil))))
    (dss_one (ds_ret (O1 := []) (de_blt (blt_sum rfl) (das_cons (DN.de (dn_comp (own := [("at", 3), ("own", 4)]) rfl nd (tok_tup (toks_cons (tok_name 3) (toks_cons (tok_name 4) toks_nil))) (di_enum (das_cons (de_var 0) das_nil) bl.enumerate) rfl rfl (fun s H C cl fp => (dg_tup rfl (dgs_cons (dg_name 3 nd) (dgs_cons (dg_name 4 nd) dgs_nil)))) (fun s H C cl fp => (dts_one (dt_cmp (dc_cm cmD_lt (de_idx hr.u1 (de_var 4) de_int) de_int)))) (fun s H C cl fp => (de_blt (blt_max2 rfl) (das_cons (de_idx hr.u1 (de_var 1) (de_var 3)) (das_cons (de_idx hr.u1 (de_var 2) (de_var 3)) das_nil)) bl.max)))) das_nil) bl.sum)))))
abbrev s_trees : Stmt := top 14
def den_trees : DenS :=
    (sSeq (sExpr (dCallF F_require (lCons (dCallF F_is_stand (lCons (dVar 0) lNil)) (lCons (dC (.str "stand")) lNil))))
    (sSeq (sAsgM [] (gTupD 2 (gsCons (gSet 2) (gsCons (gSet 3) gsNil))) (dCallF F_sums_of (lCons (dVar 0) lNil)))
    (sSeq (sNewM [] 1 (dLst (nLst lNil)))
    (sSeq (sForM [1] (lEnum (lCons (dVar 0) lNil)) (gTupD 2 (gsCons (gSet 4) (gsCons (gSet 5) gsNil)))
      (sIf (bAnd (dTB (dBin (fun x y => (inSq x y).map fun b => PyData.bool (!b)) (dBin idxD (dVar 5) (dC (.int 0))) (dVar 1))) (dTB (dBin (cmpD fun i j => decide (j < i)) (dBin idxD (dVar 2) (dVar 4)) (dBin idxD (dVar 3) (dVar 4)))))
      (sApp 1 (dVar 4))
      sNext))
    (sRet (dBlt tupleD (lCons (dVar 1) lNil)))))))
def F_trees : List PyData → Ev.Row → Res PyData := callF 5 den_trees
theorem sc_trees : FnScope ["stand", "found", "felled", "kept", "at", "own"] ["stand"] (defScope s_trees) := ⟨rfl, rfl, rfl, by decide +kernel, rfl, by decide +kernel, by decide +kernel⟩
theorem nd_trees : (["stand", "found", "felled", "kept", "at", "own"] : List Str).Nodup := by decide +kernel
theorem w_trees (bl : Blts mg) (f_is_stand : Fn P w K mg base c 2 "is_stand" ["value"] F_is_stand) (f_require : Fn P w K mg base c 3 "require" ["is_right", "name"] F_require) (f_sums_of : Fn P w K mg base c 1 "sums_of" ["stand"] F_sums_of) {f : Addr} {fd : FuncData} {cdv : Value} (F : FunC K "trees" s_trees f fd cdv) (hm : mg "trees" = some (.ref f)) : Fn P w K mg base c 4 "trees" ["stand"] F_trees :=
  fn_body (OL := []) F sc_trees hm rfl (fun _ _ _ _ _ _ us hl => match us, hl with | [_], _ => rfl) (fun _ _ _ _ _ _ us ws ks h1 h2 h3 => match us, ws, h2 with | [], [_], _ => by subst h1; rfl | [_], [], _ => absurd rfl h3) fun A outer s H E hr => have nd := nd_trees; (dss_cons (ds_expr (de_call f_require hr (by decide) cx_pass (das_cons (de_call f_is_stand hr (by decide) cx_pass (das_cons (de_var 0) das_nil) (len_cons len_nil)) (das_cons de_str das_nil)) (len_cons (len_cons len_nil))))
    (dss_cons (ds_asgM [] (tok_tup (toks_cons (tok_name 2) (toks_cons (tok_name 3) toks_nil))) (de_call f_sums_of hr (by decide) cx_pass (das_cons (de_var 0) das_nil) (len_cons len_nil)) (dg_tup rfl (dgs_cons (dg_name 2 nd) (dgs_cons (dg_name 3 nd) dgs_nil))))
    (dss_cons (ds_newM [] (da_set 1 nd (DN.df (dn_lst das_nil))))
    (dss_cons (ds_forM [1] (passes_of rfl) rfl (tok_tup (toks_cons (tok_name 4) (toks_cons (tok_name 5) toks_nil))) (di_enum (das_cons (de_var 0) das_nil) bl.enumerate) (dg_tup rfl (dgs_cons (dg_name 4 nd) (dgs_cons (dg_name 5 nd) dgs_nil)))
      (dss_one (ds_if (DW.dt (dw_and (dt_cmp (dc_cm (cmD_notin hr.u65) (de_idx hr.u1 (de_var 5) de_int) (de_var 1))) (dw_and1 (dt_cmp (dc_cm cmD_gt (de_idx hr.u1 (de_var 2) (de_var 4)) (de_idx hr.u1 (de_var 3) (de_var 4)))))))
      (dss_one (ds_app 1 (de_var 4)))
      dss_nil)))
    (dss_one (ds_ret (O1 := [1]) (de_bty blt_tuple (das_cons (de_var 1) das_nil) bl.tuple)))))))
abbrev s_are_trees : Stmt := top 15
def den_are_trees : DenS :=
    (sSeq (sExpr (dCallF F_require (lCons (dCallF F_is_stand (lCons (dVar 0) lNil)) (lCons (dC (.str "stand")) lNil))))
    (sSeq (sIf (bOr (bNot (dTB (dCallF F_is_row (lCons (dVar 1) (lCons (dC (.int 0)) (lCons (dBlt lenD (lCons (dVar 0) lNil)) lNil)))))) (bNot (dTB (dCallF F_are_wholes (lCons (dVar 1) (lCons (dBlt lenD (lCons (dVar 1) lNil)) (lCons (dC (.int 0)) (lCons (dBin subD (dBlt lenD (lCons (dVar 0) lNil)) (dC (.int 1))) lNil))))))))
      (sRet (dC (.bool false)))
      sNext)
    (sSeq (sIf (bNot (dTB (dBlt allD (lCons (dLst (nComp (lRange2 (lCons (dC (.int 1)) (lCons (dBlt lenD (lCons (dVar 1) lNil)) lNil))) (gSet 2) [2] bYes (dBin (cmpD fun i j => decide (i < j)) (dBin idxD (dVar 1) (dBin subD (dVar 2) (dC (.int 1)))) (dBin idxD (dVar 1) (dVar 2))))) lNil))))
      (sRet (dC (.bool false)))
      sNext)
    (sRet (dNot (dBlt anyD (lCons (dLst (nComp (lSeq (dVar 1)) (gSet 2) [2] bYes (dBin (fun x y => (inSq x y).map PyData.bool) (dBin idxD (dBin idxD (dVar 0) (dVar 2)) (dC (.int 0))) (dVar 1)))) lNil)))))))
def F_are_trees : List PyData → Ev.Row → Res PyData := callF 1 den_are_trees
theorem sc_are_trees : FnScope ["stand", "value", "at"] ["stand", "value"] (defScope s_are_trees) := ⟨rfl, rfl, rfl, by decide +kernel, rfl, by decide +kernel, by decide +kernel⟩
theorem nd_are_trees : (["stand", "value", "at"] : List Str).Nodup := by decide +kernel
theorem w_are_trees (bl : Blts mg) (f_are_wholes : Fn P w K mg base c 2 "are_wholes" ["value", "many", "least", "most"] F_are_wholes) (f_is_row : Fn P w K mg base c 1 "is_row" ["value", "least", "most"] F_is_row) (f_is_stand : Fn P w K mg base c 2 "is_stand" ["value"] F_is_stand) (f_require : Fn P w K mg base c 3 "require" ["is_right", "name"] F_require) {f : Addr} {fd : FuncData} {cdv : Value} (F : FunC K "are_trees" s_are_trees f fd cdv) (hm : mg "are_trees" = some (.ref f)) : Fn P w K mg base c 4 "are_trees" ["stand", "value"] F_are_trees :=
  fn_body (OL := []) F sc_are_trees hm rfl (fun _ _ _ _ _ _ us hl => match us, hl with | [_, _], _ => rfl) (fun _ _ _ _ _ _ us ws ks h1 h2 h3 => match us, ws, h2 with | [], [_, _], _ => by subst h1; rfl | [_], [_], _ => by subst h1; rfl | [_, _], [], _ => absurd rfl h3) fun A outer s H E hr => have nd := nd_are_trees; (dss_cons (ds_expr (de_call f_require hr (by decide) cx_pass (das_cons (de_call f_is_stand hr (by decide) cx_pass (das_cons (de_var 0) das_nil) (len_cons len_nil)) (das_cons de_str das_nil)) (len_cons (len_cons len_nil))))
    (dss_cons (ds_if (DW.dt (dw_or (dt_not (dt_val (de_call f_is_row hr (by decide) cx_pass (das_cons (de_var 1) (das_cons de_int (das_cons (de_blt blt_len (das_cons (de_var 0) das_nil) bl.len) das_nil))) (len_cons (len_cons (len_cons len_nil)))))) (dw_or1 (dt_not (dt_val (de_call f_are_wholes hr (by decide) cx_pass (das_cons (de_var 1) (das_cons (de_blt blt_len (das_cons (de_var 1) das_nil) bl.len) (das_cons de_int (das_cons (de_bin opD_sub (de_blt blt_len (das_cons (de_var 0) das_nil) bl.len) de_int) das_nil)))) (len_cons (len_cons (len_cons (len_cons len_nil))))))))))
      (dss_one (ds_ret (O1 := []) de_bool))
      dss_nil)
    (dss_cons (ds_if (dt_not (dt_val (de_blt (blt_all rfl) (das_cons (DN.de (dn_comp (own := [("at", 2)]) rfl nd (tok_name 2) (di_range2 (das_cons de_int (das_cons (de_blt blt_len (das_cons (de_var 1) das_nil) bl.len) das_nil)) bl.range) rfl rfl (fun s H C cl fp => (dg_name 2 nd)) (fun s H C cl fp => dts_nil) (fun s H C cl fp => (de_cmp (dc_cm cmD_lt (de_idx hr.u1 (de_var 1) (de_bin opD_sub (de_var 2) de_int)) (de_idx hr.u1 (de_var 1) (de_var 2))))))) das_nil) bl.all)))
      (dss_one (ds_ret (O1 := []) de_bool))
      dss_nil)
    (dss_one (ds_ret (O1 := []) (de_not (de_blt (blt_any rfl) (das_cons (DN.de (dn_comp (own := [("at", 2)]) rfl nd (tok_name 2) (di_seq (de_var 1)) rfl rfl (fun s H C cl fp => (dg_name 2 nd)) (fun s H C cl fp => dts_nil) (fun s H C cl fp => (de_cmp (dc_cm (cmD_in hr.u65) (de_idx hr.u1 (de_idx hr.u1 (de_var 0) (de_var 2)) de_int) (de_var 1)))))) das_nil) bl.any)))))))
abbrev s_worth_of : Stmt := top 16
def den_worth_of : DenS :=
    (sSeq (sExpr (dCallF F_require (lCons (dCallF F_are_trees (lCons (dVar 0) (lCons (dVar 1) lNil))) (lCons (dC (.str "value")) lNil))))
    (sRet (dBlt sumD (lCons (dLst (nComp (lSeq (dVar 1)) (gSet 2) [2] bYes (dBin idxD (dBin idxD (dVar 0) (dVar 2)) (dC (.int 1))))) lNil))))
def F_worth_of : List PyData → Ev.Row → Res PyData := callF 1 den_worth_of
theorem sc_worth_of : FnScope ["stand", "value", "at"] ["stand", "value"] (defScope s_worth_of) := ⟨rfl, rfl, rfl, by decide +kernel, rfl, by decide +kernel, by decide +kernel⟩
theorem nd_worth_of : (["stand", "value", "at"] : List Str).Nodup := by decide +kernel
theorem w_worth_of (bl : Blts mg) (f_are_trees : Fn P w K mg base c 4 "are_trees" ["stand", "value"] F_are_trees) (f_require : Fn P w K mg base c 3 "require" ["is_right", "name"] F_require) {f : Addr} {fd : FuncData} {cdv : Value} (F : FunC K "worth_of" s_worth_of f fd cdv) (hm : mg "worth_of" = some (.ref f)) : Fn P w K mg base c 5 "worth_of" ["stand", "value"] F_worth_of :=
  fn_body (OL := []) F sc_worth_of hm rfl (fun _ _ _ _ _ _ us hl => match us, hl with | [_, _], _ => rfl) (fun _ _ _ _ _ _ us ws ks h1 h2 h3 => match us, ws, h2 with | [], [_, _], _ => by subst h1; rfl | [_], [_], _ => by subst h1; rfl | [_, _], [], _ => absurd rfl h3) fun A outer s H E hr => have nd := nd_worth_of; (dss_cons (ds_expr (de_call f_require hr (by decide) cx_pass (das_cons (de_call f_are_trees hr (by decide) cx_pass (das_cons (de_var 0) (das_cons (de_var 1) das_nil)) (len_cons (len_cons len_nil))) (das_cons de_str das_nil)) (len_cons (len_cons len_nil))))
    (dss_one (ds_ret (O1 := []) (de_blt (blt_sum rfl) (das_cons (DN.de (dn_comp (own := [("at", 2)]) rfl nd (tok_name 2) (di_seq (de_var 1)) rfl rfl (fun s H C cl fp => (dg_name 2 nd)) (fun s H C cl fp => dts_nil) (fun s H C cl fp => (de_idx hr.u1 (de_idx hr.u1 (de_var 0) (de_var 2)) de_int)))) das_nil) bl.sum))))
abbrev s_cover : Stmt := top 17
def den_cover : DenS :=
    (sSeq (sExpr (dCallF F_require (lCons (dCallF F_is_stand (lCons (dVar 0) lNil)) (lCons (dC (.str "stand")) lNil))))
    (sSeq (sPar [] [2, 3] (lCons (dLst (nBin repN (dLst (nLst (lCons (dC (.int 0)) lNil))) (dBlt lenD (lCons (dVar 0) lNil)))) (lCons (dLst (nBin repN (dLst (nLst (lCons (dC (.int 0)) lNil))) (dBlt lenD (lCons (dVar 0) lNil)))) lNil)))
    (sSeq (sForM [2, 3] (lRange3 (lCons (dBin subD (dBlt lenD (lCons (dVar 0) lNil)) (dC (.int 1))) (lCons (dUn negD (dC (.int 1))) (lCons (dUn negD (dC (.int 1))) lNil)))) (gSet 1)
      (sSeq (sSetI 2 (dVar 1) (dBlt max2D (lCons (dC (.int 0)) (lCons (dBin subD (dBin idxD (dBin idxD (dVar 0) (dVar 1)) (dC (.int 1))) (dBin idxD (dVar 3) (dVar 1))) lNil))))
    (sSeq (sAsgM [2, 3] (gSet 4) (dBin idxD (dBin idxD (dVar 0) (dVar 1)) (dC (.int 0))))
    (sIf (dTB (dBin (cmpD fun i j => decide (j ≤ i)) (dVar 4) (dC (.int 0))))
      (sAugI 3 (fun i j => i + j) (dVar 4) (dBin idxD (dVar 2) (dVar 1)))
      sNext))))
    (sRet (dBlt tupleD (lCons (dVar 2) lNil))))))
def F_cover : List PyData → Ev.Row → Res PyData := callF 4 den_cover
theorem sc_cover : FnScope ["stand", "at", "found", "got", "ahead"] ["stand"] (defScope s_cover) := ⟨rfl, rfl, rfl, by decide +kernel, rfl, by decide +kernel, by decide +kernel⟩
theorem nd_cover : (["stand", "at", "found", "got", "ahead"] : List Str).Nodup := by decide +kernel
theorem w_cover (bl : Blts mg) (f_is_stand : Fn P w K mg base c 2 "is_stand" ["value"] F_is_stand) (f_require : Fn P w K mg base c 3 "require" ["is_right", "name"] F_require) {f : Addr} {fd : FuncData} {cdv : Value} (F : FunC K "cover" s_cover f fd cdv) (hm : mg "cover" = some (.ref f)) : Fn P w K mg base c 4 "cover" ["stand"] F_cover :=
  fn_body (OL := []) F sc_cover hm rfl (fun _ _ _ _ _ _ us hl => match us, hl with | [_], _ => rfl) (fun _ _ _ _ _ _ us ws ks h1 h2 h3 => match us, ws, h2 with | [], [_], _ => by subst h1; rfl | [_], [], _ => absurd rfl h3) fun A outer s H E hr => have nd := nd_cover; (dss_cons (ds_expr (de_call f_require hr (by decide) cx_pass (das_cons (de_call f_is_stand hr (by decide) cx_pass (das_cons (de_var 0) das_nil) (len_cons len_nil)) (das_cons de_str das_nil)) (len_cons (len_cons len_nil))))
    (dss_cons (ds_par [] 2 3 rfl nd (dxs_new (DN.df (dn_rep (DN.de (dn_lst (das_cons de_int das_nil))) (de_blt blt_len (das_cons (de_var 0) das_nil) bl.len))) (dxs_new (DN.df (dn_rep (DN.de (dn_lst (das_cons de_int das_nil))) (de_blt blt_len (das_cons (de_var 0) das_nil) bl.len))) dxs_nil)))
    (dss_cons (ds_forM [2, 3] (passes_of rfl) rfl (tok_name 1) (di_range3 (das_cons (de_bin opD_sub (de_blt blt_len (das_cons (de_var 0) das_nil) bl.len) de_int) (das_cons (de_neg de_int) (das_cons (de_neg de_int) das_nil))) bl.range) (dg_name 1 nd)
      (dss_cons (ds_setI 2 hr.u1 (de_blt (blt_max2 rfl) (das_cons de_int (das_cons (de_bin opD_sub (de_idx hr.u1 (de_idx hr.u1 (de_var 0) (de_var 1)) de_int) (de_idx hr.u1 (de_var 3) (de_var 1))) das_nil)) bl.max) (de_var 1))
    (dss_cons (ds_setM [2, 3] 4 nd (de_idx hr.u1 (de_idx hr.u1 (de_var 0) (de_var 1)) de_int))
    (dss_one (ds_if (dt_cmp (dc_cm cmD_ge (de_var 4) de_int))
      (dss_one (ds_augI 3 ip_add (de_idx hr.u1 (de_var 2) (de_var 1)) (de_var 4)))
      dss_nil)))))
    (dss_one (ds_ret (O1 := [2, 3]) (de_bty blt_tuple (das_cons (de_var 2) das_nil) bl.tuple))))))
abbrev s_is_cover : Stmt := top 18
def den_is_cover : DenS :=
    (sSeq (sExpr (dCallF F_require (lCons (dCallF F_is_stand (lCons (dVar 0) lNil)) (lCons (dC (.str "stand")) lNil))))
    (sSeq (sIf (bNot (dTB (dCallF F_are_wholes (lCons (dVar 1) (lCons (dBlt lenD (lCons (dVar 0) lNil)) (lCons (dC (.int 0)) (lCons (dC (.int 999)) lNil)))))))
      (sRet (dC (.bool false)))
      sNext)
    (sSeq (sNewM [] 2 (dLst (nBlt listD (lCons (dVar 1) lNil))))
    (sSeq (sForM [2] (lEnum (lCons (dVar 0) lNil)) (gTupD 2 (gsCons (gSet 3) (gsCons (gSet 4) gsNil)))
      (sIf (dTB (dBin (cmpD fun i j => decide (j ≤ i)) (dBin idxD (dVar 4) (dC (.int 0))) (dC (.int 0))))
      (sAugI 2 (fun i j => i + j) (dBin idxD (dVar 4) (dC (.int 0))) (dBin idxD (dVar 1) (dVar 3)))
      sNext))
    (sRet (dBlt allD (lCons (dLst (nComp (lZipA (lCons (dVar 2) (lCons (dVar 0) lNil))) (gTupD 2 (gsCons (gSet 5) (gsCons (gSet 4) gsNil))) ([5] ++ ([4] ++ [])) bYes (dBin (cmpD fun i j => decide (j ≤ i)) (dVar 5) (dBin idxD (dVar 4) (dC (.int 1)))))) lNil)))))))
def F_is_cover : List PyData → Ev.Row → Res PyData := callF 4 den_is_cover
theorem sc_is_cover : FnScope ["stand", "value", "got", "at", "own", "have"] ["stand", "value"] (defScope s_is_cover) := ⟨rfl, rfl, rfl, by decide +kernel, rfl, by decide +kernel, by decide +kernel⟩
theorem nd_is_cover : (["stand", "value", "got", "at", "own", "have"] : List Str).Nodup := by decide +kernel
theorem w_is_cover (bl : Blts mg) (f_are_wholes : Fn P w K mg base c 2 "are_wholes" ["value", "many", "least", "most"] F_are_wholes) (f_is_stand : Fn P w K mg base c 2 "is_stand" ["value"] F_is_stand) (f_require : Fn P w K mg base c 3 "require" ["is_right", "name"] F_require) (c_MOST_WORTH : ∃ t, mg "MOST_WORTH" = some (.int 999 t)) {f : Addr} {fd : FuncData} {cdv : Value} (F : FunC K "is_cover" s_is_cover f fd cdv) (hm : mg "is_cover" = some (.ref f)) : Fn P w K mg base c 4 "is_cover" ["stand", "value"] F_is_cover :=
  fn_body (OL := []) F sc_is_cover hm rfl (fun _ _ _ _ _ _ us hl => match us, hl with | [_, _], _ => rfl) (fun _ _ _ _ _ _ us ws ks h1 h2 h3 => match us, ws, h2 with | [], [_, _], _ => by subst h1; rfl | [_], [_], _ => by subst h1; rfl | [_, _], [], _ => absurd rfl h3) fun A outer s H E hr => have nd := nd_is_cover; (dss_cons (ds_expr (de_call f_require hr (by decide) cx_pass (das_cons (de_call f_is_stand hr (by decide) cx_pass (das_cons (de_var 0) das_nil) (len_cons len_nil)) (das_cons de_str das_nil)) (len_cons (len_cons len_nil))))
    (dss_cons (ds_if (dt_not (dt_val (de_call f_are_wholes hr (by decide) cx_pass (das_cons (de_var 1) (das_cons (de_blt blt_len (das_cons (de_var 0) das_nil) bl.len) (das_cons de_int (das_cons (de_glob (i := 999) c_MOST_WORTH) das_nil)))) (len_cons (len_cons (len_cons (len_cons len_nil)))))))
      (dss_one (ds_ret (O1 := []) de_bool))
      dss_nil)
    (dss_cons (ds_newM [] (da_set 2 nd (DN.df (dn_bty blt_list (das_cons (de_var 1) das_nil) bl.list))))
    (dss_cons (ds_forM [2] (passes_of rfl) rfl (tok_tup (toks_cons (tok_name 3) (toks_cons (tok_name 4) toks_nil))) (di_enum (das_cons (de_var 0) das_nil) bl.enumerate) (dg_tup rfl (dgs_cons (dg_name 3 nd) (dgs_cons (dg_name 4 nd) dgs_nil)))
      (dss_one (ds_if (dt_cmp (dc_cm cmD_ge (de_idx hr.u1 (de_var 4) de_int) de_int))
      (dss_one (ds_augI 2 ip_add (de_idx hr.u1 (de_var 1) (de_var 3)) (de_idx hr.u1 (de_var 4) de_int)))
      dss_nil)))
    (dss_one (ds_ret (O1 := [2]) (de_blt (blt_all rfl) (das_cons (DN.de (dn_comp (own := [("have", 5), ("own", 4)]) rfl nd (tok_tup (toks_cons (tok_name 5) (toks_cons (tok_name 4) toks_nil))) (di_zipA (das_cons (de_var 2) (das_cons (de_var 0) das_nil)) bl.zip) rfl rfl (fun s H C cl fp => (dg_tup rfl (dgs_cons (dg_name 5 nd) (dgs_cons (dg_name 4 nd) dgs_nil)))) (fun s H C cl fp => dts_nil) (fun s H C cl fp => (de_cmp (dc_cm cmD_ge (de_var 5) (de_idx hr.u1 (de_var 4) de_int)))))) das_nil) bl.all)))))))
abbrev s_best_of : Stmt := top 20
def den_best_of : DenS :=
    (sSeq (sAsgM [] (gTupD 2 (gsCons (gSet 1) (gsCons (gSet 2) gsNil))) (dCallF F_sums_of (lCons (dVar 0) lNil)))
    (sRet (dBlt sumD (lCons (dLst (nComp (lEnum (lCons (dVar 0) lNil)) (gTupD 2 (gsCons (gSet 3) (gsCons (gSet 4) gsNil))) ([3] ++ ([4] ++ [])) (dTB (dBin (cmpD fun i j => decide (i < j)) (dBin idxD (dVar 4) (dC (.int 0))) (dC (.int 0)))) (dBlt max2D (lCons (dBin idxD (dVar 1) (dVar 3)) (lCons (dBin idxD (dVar 2) (dVar 3)) lNil))))) lNil))))
def F_best_of : List PyData → Ev.Row → Res PyData := callF 4 den_best_of
theorem sc_best_of : FnScope ["stand", "felled", "kept", "at", "own"] ["stand"] (defScope s_best_of) := ⟨rfl, rfl, rfl, by decide +kernel, rfl, by decide +kernel, by decide +kernel⟩
theorem nd_best_of : (["stand", "felled", "kept", "at", "own"] : List Str).Nodup := by decide +kernel
theorem w_best_of (bl : Blts mg) (f_sums_of : Fn P w K mg base c 1 "sums_of" ["stand"] F_sums_of) {f : Addr} {fd : FuncData} {cdv : Value} (F : FunC K "best_of" s_best_of f fd cdv) (hm : mg "best_of" = some (.ref f)) : Fn P w K mg base c 2 "best_of" ["stand"] F_best_of :=
  fn_body (OL := []) F sc_best_of hm rfl (fun _ _ _ _ _ _ us hl => match us, hl with | [_], _ => rfl) (fun _ _ _ _ _ _ us ws ks h1 h2 h3 => match us, ws, h2 with | [], [_], _ => by subst h1; rfl | [_], [], _ => absurd rfl h3) fun A outer s H E hr => have nd := nd_best_of; (dss_cons (ds_asgM [] (tok_tup (toks_cons (tok_name 1) (toks_cons (tok_name 2) toks_nil))) (de_call f_sums_of hr (by decide) cx_pass (das_cons (de_var 0) das_nil) (len_cons len_nil)) (dg_tup rfl (dgs_cons (dg_name 1 nd) (dgs_cons (dg_name 2 nd) dgs_nil))))
    (dss_one (ds_ret (O1 := []) (de_blt (blt_sum rfl) (das_cons (DN.de (dn_comp (own := [("at", 3), ("own", 4)]) rfl nd (tok_tup (toks_cons (tok_name 3) (toks_cons (tok_name 4) toks_nil))) (di_enum (das_cons (de_var 0) das_nil) bl.enumerate) rfl rfl (fun s H C cl fp => (dg_tup rfl (dgs_cons (dg_name 3 nd) (dgs_cons (dg_name 4 nd) dgs_nil)))) (fun s H C cl fp => (dts_one (dt_cmp (dc_cm cmD_lt (de_idx hr.u1 (de_var 4) de_int) de_int)))) (fun s H C cl fp => (de_blt (blt_max2 rfl) (das_cons (de_idx hr.u1 (de_var 1) (de_var 3)) (das_cons (de_idx hr.u1 (de_var 2) (de_var 3)) das_nil)) bl.max)))) das_nil) bl.sum))))
abbrev s_always : Stmt := top 19
def den_always : DenS :=
    (sSeq (sExpr (dCallF F_require (lCons (dCallF F_is_stand (lCons (dVar 0) lNil)) (lCons (dC (.str "stand")) lNil))))
    (sSeq (sPar [] [2, 3] (lCons (dCallF F_best_of (lCons (dVar 0) lNil)) (lCons (dLst (nLst lNil)) lNil)))
    (sSeq (sForM [3] (lRange1 (lCons (dBlt lenD (lCons (dVar 0) lNil)) lNil)) (gSet 1)
      (sSeq (sAsgM [3] (gSet 4) (dBin addD (dBin addD (dSlice (dVar 0) oNone (oSome (dVar 1))) (dTup (lCons (dTup (lCons (dBin idxD (dBin idxD (dVar 0) (dVar 1)) (dC (.int 0))) (lCons (dC (.int 0)) lNil))) lNil))) (dSlice (dVar 0) (oSome (dBin addD (dVar 1) (dC (.int 1)))) oNone)))
    (sIf (dTB (dBin (cmpD fun i j => decide (i < j)) (dCallF F_best_of (lCons (dVar 4) lNil)) (dVar 2)))
      (sApp 3 (dVar 1))
      sNext)))
    (sRet (dBlt tupleD (lCons (dVar 3) lNil))))))
def F_always : List PyData → Ev.Row → Res PyData := callF 4 den_always
theorem sc_always : FnScope ["stand", "at", "most", "found", "less"] ["stand"] (defScope s_always) := ⟨rfl, rfl, rfl, by decide +kernel, rfl, by decide +kernel, by decide +kernel⟩
theorem nd_always : (["stand", "at", "most", "found", "less"] : List Str).Nodup := by decide +kernel
theorem w_always (bl : Blts mg) (f_best_of : Fn P w K mg base c 2 "best_of" ["stand"] F_best_of) (f_is_stand : Fn P w K mg base c 2 "is_stand" ["value"] F_is_stand) (f_require : Fn P w K mg base c 3 "require" ["is_right", "name"] F_require) {f : Addr} {fd : FuncData} {cdv : Value} (F : FunC K "always" s_always f fd cdv) (hm : mg "always" = some (.ref f)) : Fn P w K mg base c 4 "always" ["stand"] F_always :=
  fn_body (OL := []) F sc_always hm rfl (fun _ _ _ _ _ _ us hl => match us, hl with | [_], _ => rfl) (fun _ _ _ _ _ _ us ws ks h1 h2 h3 => match us, ws, h2 with | [], [_], _ => by subst h1; rfl | [_], [], _ => absurd rfl h3) fun A outer s H E hr => have nd := nd_always; (dss_cons (ds_expr (de_call f_require hr (by decide) cx_pass (das_cons (de_call f_is_stand hr (by decide) cx_pass (das_cons (de_var 0) das_nil) (len_cons len_nil)) (das_cons de_str das_nil)) (len_cons (len_cons len_nil))))
    (dss_cons (ds_par [] 2 3 rfl nd (dxs_old (de_call f_best_of hr (by decide) cx_pass (das_cons (de_var 0) das_nil) (len_cons len_nil)) (dxs_new (DN.df (dn_lst das_nil)) dxs_nil)))
    (dss_cons (ds_forM [3] (passes_of rfl) rfl (tok_name 1) (di_range1 (das_cons (de_blt blt_len (das_cons (de_var 0) das_nil) bl.len) das_nil) bl.range) (dg_name 1 nd)
      (dss_cons (ds_setM [3] 4 nd (de_bin opD_add (de_bin opD_add (de_slice (de_var 0) do_none (do_some (de_var 1))) (de_tup (das_cons (de_tup (das_cons (de_idx hr.u1 (de_idx hr.u1 (de_var 0) (de_var 1)) de_int) (das_cons de_int das_nil))) das_nil))) (de_slice (de_var 0) (do_some (de_bin opD_add (de_var 1) de_int)) do_none)))
    (dss_one (ds_if (dt_cmp (dc_cm cmD_lt (de_call f_best_of hr (by decide) cx_pass (das_cons (de_var 4) das_nil) (len_cons len_nil)) (de_var 2)))
      (dss_one (ds_app 3 (de_var 1)))
      dss_nil))))
    (dss_one (ds_ret (O1 := [3]) (de_bty blt_tuple (das_cons (de_var 3) das_nil) bl.tuple))))))
abbrev s__law_taken : Stmt := top 22
def den__law_taken : DenS :=
    (sSeq (sIf (dTB (dBin (cmpD fun i j => decide (j < i)) (dRow 0 3) (dC (.int 0))))
      (sSeq (sAsgM [] (gSet 3) (dBin modD (dBlt intD (lCons (dRow 0 3) lNil)) (dVar 1)))
    (sSeq (sRow 0 3 (dBin fdivD (dRow 0 3) (dVar 1)))
    (sRet (dVar 3))))
      sNext)
    (sSeq (sRow 0 1 (dBin addD (dRow 0 1) (dC (.int 1))))
    (sSeq (sIf (dTB (dBin (cmpD fun i j => decide (j < i)) (dRow 0 1) (dRowLen 0)))
      (sSeq (sRow 0 2 (dBin modD (dBlt intD (lCons (dBin addD (dBin mulD (dRow 0 2) (dC (.int 48271))) (dC (.int 11))) lNil)) (dC (.int 2147483647))))
    (sRet (dBin modD (dBlt intD (lCons (dBin fdivD (dRow 0 2) (dC (.int 7))) lNil)) (dVar 1))))
      sNext)
    (sSeq (sAsgM [] (gSet 2) (dRowCell 0 (dBin subD (dRow 0 1) (dC (.int 1)))))
    (sSeq (sRow 0 2 (dBin modD (dBlt intD (lCons (dBin addD (dBin addD (dBin mulD (dRow 0 2) (dC (.int 48271))) (dBlt intD (lCons (dVar 2) lNil))) (dC (.int 11))) lNil)) (dC (.int 2147483647))))
    (sSeq (sIf (dTB (dBin (cmpD fun i j => decide (j ≤ i)) (dVar 2) (dBin powD (dC (.int 10)) (dC (.int 18)))))
      (sRow 0 3 (dBin fdivD (dBlt intD (lCons (dBin modD (dBlt intD (lCons (dVar 2) lNil)) (dBin powD (dC (.int 10)) (dC (.int 90)))) lNil)) (dVar 1)))
      sNext)
    (sRet (dBin modD (dBlt intD (lCons (dVar 2) lNil)) (dVar 1)))))))))
def F__law_taken : List PyData → Ev.Row → Res PyData := callF 2 den__law_taken
theorem sc__law_taken : FnScope ["row", "many", "cell", "found"] ["row", "many"] (defScope s__law_taken) := ⟨rfl, rfl, rfl, by decide +kernel, rfl, by decide +kernel, by decide +kernel⟩
theorem nd__law_taken : (["row", "many", "cell", "found"] : List Str).Nodup := by decide +kernel
theorem w__law_taken (bl : Blts mg)  {f : Addr} {fd : FuncData} {cdv : Value} (F : FunC K "_law_taken" s__law_taken f fd cdv) (hm : mg "_law_taken" = some (.ref f)) : Fn P w K mg base c 1 "_law_taken" ["row", "many"] F__law_taken :=
  fn_body (OL := []) F sc__law_taken hm rfl (fun _ _ _ _ _ _ us hl => match us, hl with | [_, _], _ => rfl) (fun _ _ _ _ _ _ us ws ks h1 h2 h3 => match us, ws, h2 with | [], [_, _], _ => by subst h1; rfl | [_], [_], _ => by subst h1; rfl | [_, _], [], _ => absurd rfl h3) fun A outer s H E hr => have nd := nd__law_taken; (dss_cons (ds_if (dt_cmp (dc_cm cmD_gt (de_row 0 3) de_int))
      (dss_cons (ds_setM [] 3 nd (de_bin opD_mod (de_bty blt_int (das_cons (de_row 0 3) das_nil) bl.int) (de_var 1)))
    (dss_cons (ds_row 0 3 (de_bin opD_fdiv (de_row 0 3) (de_var 1)))
    (dss_one (ds_ret (O1 := []) (de_var 3)))))
      dss_nil)
    (dss_cons (ds_row 0 1 (de_bin opD_add (de_row 0 1) de_int))
    (dss_cons (ds_if (dt_cmp (dc_cm cmD_gt (de_row 0 1) (de_rowLen 0 bl.len)))
      (dss_cons (ds_row 0 2 (de_bin opD_mod (de_bty blt_int (das_cons (de_bin opD_add (de_bin opD_mul (de_row 0 2) de_int) de_int) das_nil) bl.int) de_int))
    (dss_one (ds_ret (O1 := []) (de_bin opD_mod (de_bty blt_int (das_cons (de_bin opD_fdiv (de_row 0 2) de_int) das_nil) bl.int) (de_var 1)))))
      dss_nil)
    (dss_cons (ds_setM [] 2 nd (de_rowCell 0 (de_bin opD_sub (de_row 0 1) de_int) hns0))
    (dss_cons (ds_row 0 2 (de_bin opD_mod (de_bty blt_int (das_cons (de_bin opD_add (de_bin opD_add (de_bin opD_mul (de_row 0 2) de_int) (de_bty blt_int (das_cons (de_var 2) das_nil) bl.int)) de_int) das_nil) bl.int) de_int))
    (dss_cons (ds_if (dt_cmp (dc_cm cmD_ge (de_var 2) (de_bin opD_pow de_int de_int)))
      (dss_one (ds_row 0 3 (de_bin opD_fdiv (de_bty blt_int (das_cons (de_bin opD_mod (de_bty blt_int (das_cons (de_var 2) das_nil) bl.int) (de_bin opD_pow de_int de_int)) das_nil) bl.int) (de_var 1))))
      dss_nil)
    (dss_one (ds_ret (O1 := []) (de_bin opD_mod (de_bty blt_int (das_cons (de_var 2) das_nil) bl.int) (de_var 1))))))))))
abbrev s__law_pick : Stmt := top 23
def den__law_pick : DenS :=
    (sRet (dBin idxD (dVar 1) (dCallF F__law_taken (lCons (dVar 0) (lCons (dBlt lenD (lCons (dVar 1) lNil)) lNil)))))
def F__law_pick : List PyData → Ev.Row → Res PyData := callF 0 den__law_pick
theorem sc__law_pick : FnScope ["row", "some"] ["row", "some"] (defScope s__law_pick) := ⟨rfl, rfl, rfl, by decide +kernel, rfl, by decide +kernel, by decide +kernel⟩
theorem nd__law_pick : (["row", "some"] : List Str).Nodup := by decide +kernel
theorem w__law_pick (bl : Blts mg) (f__law_taken : Fn P w K mg base c 1 "_law_taken" ["row", "many"] F__law_taken) {f : Addr} {fd : FuncData} {cdv : Value} (F : FunC K "_law_pick" s__law_pick f fd cdv) (hm : mg "_law_pick" = some (.ref f)) : Fn P w K mg base c 2 "_law_pick" ["row", "some"] F__law_pick :=
  fn_body (OL := []) F sc__law_pick hm rfl (fun _ _ _ _ _ _ us hl => match us, hl with | [_, _], _ => rfl) (fun _ _ _ _ _ _ us ws ks h1 h2 h3 => match us, ws, h2 with | [], [_, _], _ => by subst h1; rfl | [_], [_], _ => by subst h1; rfl | [_, _], [], _ => absurd rfl h3) fun A outer s H E hr => have nd := nd__law_pick; (dss_one (ds_ret (O1 := []) (de_idx hr.u1 (de_var 1) (de_call f__law_taken hr (by decide) cx_pass (das_cons (de_var 0) (das_cons (de_blt blt_len (das_cons (de_var 1) das_nil) bl.len) das_nil)) (len_cons (len_cons len_nil))))))
abbrev s__law_alike : Stmt := top 25
def den__law_alike (F__law_alike : List PyData → Ev.Row → Res PyData) : DenS :=
    (sSeq (sIf (dTB (dUn (isiD "tuple") (dVar 1)))
      (sSeq (sIf (bOr (bNot (dTB (dUn (isiD "tuple") (dVar 0)))) (dTB (dBin neD (dBlt lenD (lCons (dVar 0) lNil)) (dBlt lenD (lCons (dVar 1) lNil)))))
      (sRet (dC (.bool false)))
      sNext)
    (sRet (dBin eqD (dLst (nComp (lRange1 (lCons (dBlt lenD (lCons (dVar 1) lNil)) lNil)) (gSet 2) [2] (bNot (dTB (dCallF F__law_alike (lCons (dBin idxD (dVar 0) (dVar 2)) (lCons (dBin idxD (dVar 1) (dVar 2)) lNil))))) (dVar 2))) (dLst (nLst lNil)))))
      sNext)
    (sSeq (sIf (bOr (dTB (dBin isND (dVar 1) (dC .none))) (dTB (dUn (isiD "str") (dVar 1))))
      (sRet (dAnd (dBin eqD (dVar 0) (dVar 1)) (dBin eqD (dUn (isiD "str") (dVar 0)) (dUn (isiD "str") (dVar 1)))))
      sNext)
    (sRet (dAnd (dUn (isiD "int") (dVar 0)) (dAnd (dBin eqD (dUn (isiD "bool") (dVar 0)) (dUn (isiD "bool") (dVar 1))) (dBin eqD (dVar 0) (dVar 1)))))))
def F__law_alike : Nat → List PyData → Ev.Row → Res PyData
  | 0 => fun _ _ => .stuck
  | n + 1 => callF 1 (den__law_alike (F__law_alike n))
theorem sc__law_alike : FnScope ["found", "due", "at"] ["found", "due"] (defScope s__law_alike) := ⟨rfl, rfl, rfl, by decide +kernel, rfl, by decide +kernel, by decide +kernel⟩
theorem nd__law_alike : (["found", "due", "at"] : List Str).Nodup := by decide +kernel
theorem w__law_alike (bl : Blts mg)  {f : Addr} {fd : FuncData} {cdv : Value} (F : FunC K "_law_alike" s__law_alike f fd cdv) (hm : mg "_law_alike" = some (.ref f)) : ∀ n : Nat, n ≤ 100 → Fn P w K mg base c n "_law_alike" ["found", "due"] (F__law_alike n)
  | 0, _ => fn_none F hm (fun _ _ _ _ _ _ us hl => match us, hl with | [_, _], _ => rfl) (fun _ _ _ _ _ _ us ws ks h1 h2 h3 => match us, ws, h2 with | [], [_, _], _ => by subst h1; rfl | [_], [_], _ => by subst h1; rfl | [_, _], [], _ => absurd rfl h3)
  | n + 1, hn => by
    have f__law_alike := w__law_alike bl  F hm n (by omega)
    exact fn_body (OL := []) F sc__law_alike hm rfl (fun _ _ _ _ _ _ us hl => match us, hl with | [_, _], _ => rfl) (fun _ _ _ _ _ _ us ws ks h1 h2 h3 => match us, ws, h2 with | [], [_, _], _ => by subst h1; rfl | [_], [_], _ => by subst h1; rfl | [_, _], [], _ => absurd rfl h3) fun A outer s H E hr => have nd := nd__law_alike; (dss_cons (ds_if (dt_val (de_isi (T := "tuple") (de_var 1) bl.isinstance bl.tuple))
      (dss_cons (ds_if (DW.dt (dw_or (dt_not (dt_val (de_isi (T := "tuple") (de_var 0) bl.isinstance bl.tuple))) (dw_or1 (dt_cmp (dc_cm (cmD_ne hr.units) (de_blt blt_len (das_cons (de_var 0) das_nil) bl.len) (de_blt blt_len (das_cons (de_var 1) das_nil) bl.len))))))
      (dss_one (ds_ret (O1 := []) de_bool))
      dss_nil)
    (dss_one (ds_ret (O1 := []) (de_cmp (dc_cm (cmD_eq hr.units) (DN.de (dn_comp (own := [("at", 2)]) rfl nd (tok_name 2) (di_range1 (das_cons (de_blt blt_len (das_cons (de_var 1) das_nil) bl.len) das_nil) bl.range) rfl rfl (fun s H C cl fp => (dg_name 2 nd)) (fun s H C cl fp => (dts_one (dt_not (dt_val (de_call f__law_alike hr (Nat.le_refl _) passL (das_cons (de_idx hr.u1 (de_var 0) (de_var 2)) (das_cons (de_idx hr.u1 (de_var 1) (de_var 2)) das_nil)) (len_cons (len_cons len_nil))))))) (fun s H C cl fp => (de_var 2)))) (DN.de (dn_lst das_nil)))))))
      dss_nil)
    (dss_cons (ds_if (DW.dt (dw_or (dt_cmp (dc_cm cmD_isN (de_var 1) de_none)) (dw_or1 (dt_val (de_isi (T := "str") (de_var 1) bl.isinstance bl.str)))))
      (dss_one (ds_ret (O1 := []) (de_and (de_cmp (dc_cm (cmD_eq hr.units) (de_var 0) (de_var 1))) (de_one (de_cmp (dc_cm (cmD_eq hr.units) (de_isi (T := "str") (de_var 0) bl.isinstance bl.str) (de_isi (T := "str") (de_var 1) bl.isinstance bl.str)))))))
      dss_nil)
    (dss_one (ds_ret (O1 := []) (de_and (de_isi (T := "int") (de_var 0) bl.isinstance bl.int) (de_and (de_cmp (dc_cm (cmD_eq hr.units) (de_isi (T := "bool") (de_var 0) bl.isinstance bl.bool) (de_isi (T := "bool") (de_var 1) bl.isinstance bl.bool))) (de_one (de_cmp (dc_cm (cmD_eq hr.units) (de_var 0) (de_var 1))))))))))
abbrev s__law_stand : Stmt := top 26
def den__law_stand : DenS :=
    (sSeq (sPar [] [2, 3, 4] (lCons (dLst (nLst lNil)) (lCons (dCallF F__law_pick (lCons (dVar 0) (lCons (dLst (nLst (lCons (dC (.int 2)) (lCons (dC (.int 9)) (lCons (dC (.int 1000)) lNil))))) lNil))) (lCons (dCallF F__law_taken (lCons (dVar 0) (lCons (dC (.int 3)) lNil))) lNil))))
    (sSeq (sForM [2] (lRange1 (lCons (dBin addD (dC (.int 1)) (dCallF F__law_taken (lCons (dVar 0) (lCons (dC (.int 9)) lNil)))) lNil)) (gSet 1)
      (sSeq (sAsgM [2] (gSet 5) (dIf (dTB (dBin eqD (dVar 4) (dC (.int 0)))) (dBin subD (dVar 1) (dC (.int 1))) (dBin subD (dCallF F__law_taken (lCons (dVar 0) (lCons (dBin addD (dVar 1) (dC (.int 1))) lNil))) (dC (.int 1)))))
    (sApp 2 (dTup (lCons (dVar 5) (lCons (dCallF F__law_taken (lCons (dVar 0) (lCons (dVar 3) lNil))) lNil))))))
    (sRet (dBlt tupleD (lCons (dVar 2) lNil)))))
def F__law_stand : List PyData → Ev.Row → Res PyData := callF 5 den__law_stand
theorem sc__law_stand : FnScope ["row", "at", "found", "most", "what", "ahead"] ["row"] (defScope s__law_stand) := ⟨rfl, rfl, rfl, by decide +kernel, rfl, by decide +kernel, by decide +kernel⟩
theorem nd__law_stand : (["row", "at", "found", "most", "what", "ahead"] : List Str).Nodup := by decide +kernel
theorem w__law_stand (bl : Blts mg) (f__law_pick : Fn P w K mg base c 2 "_law_pick" ["row", "some"] F__law_pick) (f__law_taken : Fn P w K mg base c 1 "_law_taken" ["row", "many"] F__law_taken) {f : Addr} {fd : FuncData} {cdv : Value} (F : FunC K "_law_stand" s__law_stand f fd cdv) (hm : mg "_law_stand" = some (.ref f)) : Fn P w K mg base c 3 "_law_stand" ["row"] F__law_stand :=
  fn_body (OL := []) F sc__law_stand hm rfl (fun _ _ _ _ _ _ us hl => match us, hl with | [_], _ => rfl) (fun _ _ _ _ _ _ us ws ks h1 h2 h3 => match us, ws, h2 with | [], [_], _ => by subst h1; rfl | [_], [], _ => absurd rfl h3) fun A outer s H E hr => have nd := nd__law_stand; (dss_cons (ds_par3 [] 2 3 4 rfl nd (dxs_new (DN.df (dn_lst das_nil)) (dxs_old (de_call f__law_pick hr (by decide) cx_pass (das_cons (de_var 0) (das_cons (DN.de (dn_lst (das_cons de_int (das_cons de_int (das_cons de_int das_nil))))) das_nil)) (len_cons (len_cons len_nil))) (dxs_old (de_call f__law_taken hr (by decide) cx_pass (das_cons (de_var 0) (das_cons de_int das_nil)) (len_cons (len_cons len_nil))) dxs_nil))))
    (dss_cons (ds_forM [2] (passes_of rfl) rfl (tok_name 1) (di_range1 (das_cons (de_bin opD_add de_int (de_call f__law_taken hr (by decide) cx_pass (das_cons (de_var 0) (das_cons de_int das_nil)) (len_cons (len_cons len_nil)))) das_nil) bl.range) (dg_name 1 nd)
      (dss_cons (ds_setM [2] 5 nd (de_if (dt_cmp (dc_cm (cmD_eq hr.units) (de_var 4) de_int)) (de_bin opD_sub (de_var 1) de_int) (de_bin opD_sub (de_call f__law_taken hr (by decide) cx_pass (das_cons (de_var 0) (das_cons (de_bin opD_add (de_var 1) de_int) das_nil)) (len_cons (len_cons len_nil))) de_int)))
    (dss_one (ds_app 2 (de_tup (das_cons (de_var 5) (das_cons (de_call f__law_taken hr (by decide) cx_pass (das_cons (de_var 0) (das_cons (de_var 3) das_nil)) (len_cons (len_cons len_nil))) das_nil)))))))
    (dss_one (ds_ret (O1 := [2]) (de_bty blt_tuple (das_cons (de_var 2) das_nil) bl.tuple)))))
abbrev s__law_sets : Stmt := top 27
def den__law_sets : DenS :=
    (sSeq (sNewM [] 1 (dLst (nLst (lCons (dTup lNil) lNil))))
    (sSeq (sForM [1] (lRange1 (lCons (dBlt lenD (lCons (dVar 0) lNil)) lNil)) (gSet 2)
      (sNew 1 (dLst (nBin catN (dVar 1) (dLst (nComp (lSeq (dVar 1)) (gSet 3) [3] (dTB (dBin (fun x y => (inSq x y).map fun b => PyData.bool (!b)) (dBin idxD (dBin idxD (dVar 0) (dVar 2)) (dC (.int 0))) (dVar 3))) (dBin addD (dVar 3) (dTup (lCons (dVar 2) lNil)))))))))
    (sRet (dVar 1))))
def F__law_sets : List PyData → Ev.Row → Res PyData := callF 3 den__law_sets
theorem sc__law_sets : FnScope ["stand", "found", "at", "own"] ["stand"] (defScope s__law_sets) := ⟨rfl, rfl, rfl, by decide +kernel, rfl, by decide +kernel, by decide +kernel⟩
theorem nd__law_sets : (["stand", "found", "at", "own"] : List Str).Nodup := by decide +kernel
theorem w__law_sets (bl : Blts mg)  {f : Addr} {fd : FuncData} {cdv : Value} (F : FunC K "_law_sets" s__law_sets f fd cdv) (hm : mg "_law_sets" = some (.ref f)) : Fn P w K mg base c 1 "_law_sets" ["stand"] F__law_sets :=
  fn_body (OL := []) F sc__law_sets hm rfl (fun _ _ _ _ _ _ us hl => match us, hl with | [_], _ => rfl) (fun _ _ _ _ _ _ us ws ks h1 h2 h3 => match us, ws, h2 with | [], [_], _ => by subst h1; rfl | [_], [], _ => absurd rfl h3) fun A outer s H E hr => have nd := nd__law_sets; (dss_cons (ds_newM [] (da_set 1 nd (DN.df (dn_lst (das_cons (de_tup das_nil) das_nil)))))
    (dss_cons (ds_forM [1] (passes_of rfl) rfl (tok_name 2) (di_range1 (das_cons (de_blt blt_len (das_cons (de_var 0) das_nil) bl.len) das_nil) bl.range) (dg_name 2 nd)
      (dss_one (ds_new (da_set 1 nd (DN.df (dn_cat (de_var 1) (DN.de (dn_comp (own := [("own", 3)]) rfl nd (tok_name 3) (di_seq (de_var 1)) rfl rfl (fun s H C cl fp => (dg_name 3 nd)) (fun s H C cl fp => (dts_one (dt_cmp (dc_cm (cmD_notin hr.u65) (de_idx hr.u1 (de_idx hr.u1 (de_var 0) (de_var 2)) de_int) (de_var 3))))) (fun s H C cl fp => (de_bin opD_add (de_var 3) (de_tup (das_cons (de_var 2) das_nil))))))))))))
    (dss_one (ds_ret (O1 := [1]) (de_var 1)))))
abbrev s__law_sum : Stmt := top 28
def den__law_sum : DenS :=
    (sRet (dBlt sumD (lCons (dLst (nComp (lSeq (dVar 1)) (gSet 2) [2] bYes (dBin idxD (dBin idxD (dVar 0) (dVar 2)) (dC (.int 1))))) lNil)))
def F__law_sum : List PyData → Ev.Row → Res PyData := callF 1 den__law_sum
theorem sc__law_sum : FnScope ["stand", "some", "at"] ["stand", "some"] (defScope s__law_sum) := ⟨rfl, rfl, rfl, by decide +kernel, rfl, by decide +kernel, by decide +kernel⟩
theorem nd__law_sum : (["stand", "some", "at"] : List Str).Nodup := by decide +kernel
theorem w__law_sum (bl : Blts mg)  {f : Addr} {fd : FuncData} {cdv : Value} (F : FunC K "_law_sum" s__law_sum f fd cdv) (hm : mg "_law_sum" = some (.ref f)) : Fn P w K mg base c 1 "_law_sum" ["stand", "some"] F__law_sum :=
  fn_body (OL := []) F sc__law_sum hm rfl (fun _ _ _ _ _ _ us hl => match us, hl with | [_, _], _ => rfl) (fun _ _ _ _ _ _ us ws ks h1 h2 h3 => match us, ws, h2 with | [], [_, _], _ => by subst h1; rfl | [_], [_], _ => by subst h1; rfl | [_, _], [], _ => absurd rfl h3) fun A outer s H E hr => have nd := nd__law_sum; (dss_one (ds_ret (O1 := []) (de_blt (blt_sum rfl) (das_cons (DN.de (dn_comp (own := [("at", 2)]) rfl nd (tok_name 2) (di_seq (de_var 1)) rfl rfl (fun s H C cl fp => (dg_name 2 nd)) (fun s H C cl fp => dts_nil) (fun s H C cl fp => (de_idx hr.u1 (de_idx hr.u1 (de_var 0) (de_var 2)) de_int)))) das_nil) bl.sum)))
abbrev s__law_covers : Stmt := top 29
def den__law_covers : DenS :=
    (sSeq (sForM [] (lRange1 (lCons (dBlt lenD (lCons (dVar 0) lNil)) lNil)) (gSet 2)
      (sSeq (sAsgM [] (gSet 3) (dBin addD (dBin idxD (dVar 1) (dVar 2)) (dBlt sumD (lCons (dLst (nComp (lRange1 (lCons (dBlt lenD (lCons (dVar 0) lNil)) lNil)) (gSet 4) [4] (dTB (dBin eqD (dBin idxD (dBin idxD (dVar 0) (dVar 4)) (dC (.int 0))) (dVar 2))) (dBin idxD (dVar 1) (dVar 4)))) lNil))))
    (sIf (bOr (bNot (dTB (dChain (cmpD fun i j => decide (i ≤ j)) (cmpD fun i j => decide (i ≤ j)) (dC (.int 0)) (dBin idxD (dVar 1) (dVar 2)) (dC (.int 999))))) (dTB (dBin (cmpD fun i j => decide (i < j)) (dVar 3) (dBin idxD (dBin idxD (dVar 0) (dVar 2)) (dC (.int 1))))))
      (sRet (dC (.bool false)))
      sNext)))
    (sRet (dC (.bool true))))
def F__law_covers : List PyData → Ev.Row → Res PyData := callF 3 den__law_covers
theorem sc__law_covers : FnScope ["stand", "value", "at", "have", "other"] ["stand", "value"] (defScope s__law_covers) := ⟨rfl, rfl, rfl, by decide +kernel, rfl, by decide +kernel, by decide +kernel⟩
theorem nd__law_covers : (["stand", "value", "at", "have", "other"] : List Str).Nodup := by decide +kernel
theorem w__law_covers (bl : Blts mg)  {f : Addr} {fd : FuncData} {cdv : Value} (F : FunC K "_law_covers" s__law_covers f fd cdv) (hm : mg "_law_covers" = some (.ref f)) : Fn P w K mg base c 1 "_law_covers" ["stand", "value"] F__law_covers :=
  fn_body (OL := []) F sc__law_covers hm rfl (fun _ _ _ _ _ _ us hl => match us, hl with | [_, _], _ => rfl) (fun _ _ _ _ _ _ us ws ks h1 h2 h3 => match us, ws, h2 with | [], [_, _], _ => by subst h1; rfl | [_], [_], _ => by subst h1; rfl | [_, _], [], _ => absurd rfl h3) fun A outer s H E hr => have nd := nd__law_covers; (dss_cons (ds_forM [] (passes_of rfl) rfl (tok_name 2) (di_range1 (das_cons (de_blt blt_len (das_cons (de_var 0) das_nil) bl.len) das_nil) bl.range) (dg_name 2 nd)
      (dss_cons (ds_setM [] 3 nd (de_bin opD_add (de_idx hr.u1 (de_var 1) (de_var 2)) (de_blt (blt_sum rfl) (das_cons (DN.de (dn_comp (own := [("other", 4)]) rfl nd (tok_name 4) (di_range1 (das_cons (de_blt blt_len (das_cons (de_var 0) das_nil) bl.len) das_nil) bl.range) rfl rfl (fun s H C cl fp => (dg_name 4 nd)) (fun s H C cl fp => (dts_one (dt_cmp (dc_cm (cmD_eq hr.units) (de_idx hr.u1 (de_idx hr.u1 (de_var 0) (de_var 4)) de_int) (de_var 2))))) (fun s H C cl fp => (de_idx hr.u1 (de_var 1) (de_var 4))))) das_nil) bl.sum)))
    (dss_one (ds_if (DW.dt (dw_or (dt_not (dt_chain cmD_le cmD_le de_int (de_idx hr.u1 (de_var 1) (de_var 2)) de_int)) (dw_or1 (dt_cmp (dc_cm cmD_lt (de_var 3) (de_idx hr.u1 (de_idx hr.u1 (de_var 0) (de_var 2)) de_int))))))
      (dss_one (ds_ret (O1 := []) de_bool))
      dss_nil))))
    (dss_one (ds_ret (O1 := []) de_bool)))
end
end K20

namespace K20
open PySem PySem.Spec PyProof.Rows L2 Ev LamX
section
variable {P : Program} {w : World} {K : PySem.W.Frag} {mg : Str → Option Value} {base : Heap} {c : Cfg}
abbrev s__law_refused : Stmt := top 24
abbrev s__law_case : Stmt := top 30
def den__law_case_1 : DenS :=
    (sIf (dTB (dBin notBD (dCallF F_is_cover (lApp (lCons (dVar 1) lNil) (lCons (dBlt tupleD (lCons (dVar 13) lNil)) lNil))) (dCallF F__law_covers (lCons (dVar 1) (lCons (dVar 13) lNil)))))
      (sRet (dC (.bool false)))
      sNext)
def den__law_case_2 : DenS :=
    (sSeq (sSetI 13 (dVar 14) (dBlt max2D (lCons (dC (.int 0)) (lCons (dBlt min2D (lCons (dC (.int 999)) (lCons (dBin subD (dBin addD (dBin idxD (dVar 13) (dVar 14)) (dCallF F__law_taken (lCons (dVar 0) (lCons (dC (.int 5)) lNil)))) (dC (.int 2))) lNil))) lNil))))
    den__law_case_1)
def den__law_case_3 : DenS :=
    (sSeq (sAsg (gSet 14) (dCallF F__law_taken (lCons (dVar 0) (lCons (dBlt lenD (lCons (dVar 13) lNil)) lNil))))
    den__law_case_2)
def den__law_case_4 : DenS :=
    (sSeq (sNewM [4] 13 (dLst (nBlt listD (lCons (dVar 11) lNil))))
    den__law_case_3)
def den__law_case_5 : DenS :=
    (sSeq (sIf (bAnd (dTB (dBin (fun x y => (inSq x y).map fun b => PyData.bool (!b)) (dVar 12) (dVar 2))) (dTB (dBin neD (dRefused (dCallF F_worth_of (lCons (dVar 1) (lCons (dVar 12) lNil)))) (dC (.str "value")))))
      (sRet (dC (.bool false)))
      sNext)
    den__law_case_4)
def den__law_case_6 : DenS :=
    (sSeq (sIf (bAnd (dTB (dBin (fun x y => (inSq x y).map PyData.bool) (dVar 12) (dVar 2))) (bNot (dTB (dCallF (F__law_alike 8) (lCons (dCallF F_worth_of (lCons (dVar 1) (lCons (dVar 12) lNil))) (lCons (dCallF F__law_sum (lCons (dVar 1) (lCons (dVar 12) lNil))) lNil))))))
      (sRet (dC (.bool false)))
      sNext)
    den__law_case_5)
def den__law_case_7 : DenS :=
    (sSeq (sIf (dTB (dBin notBD (dCallF F_are_trees (lApp (lCons (dVar 1) lNil) (lCons (dVar 12) lNil))) (dBin (fun x y => (inSq x y).map PyData.bool) (dVar 12) (dVar 2))))
      (sRet (dC (.bool false)))
      sNext)
    den__law_case_6)
def den__law_case_8 : DenS :=
    (sSeq (sAsgM [4] (gSet 12) (dBlt tupleD (lCons (dLst (nBlt sortSetD (lCons (dLst (nComp (lRange1 (lCons (dCallF F__law_taken (lCons (dVar 0) (lCons (dC (.int 5)) lNil))) lNil)) (gSet 14) [14] bYes (dCallF F__law_taken (lCons (dVar 0) (lCons (dBlt lenD (lCons (dVar 1) lNil)) lNil))))) lNil))) lNil)))
    den__law_case_7)
def den__law_case_9 : DenS :=
    (sRet (dAnd (dBin eqD (dVar 7) (dLst (nBin repN (dLst (nLst (lCons (dC (.bool false)) lNil))) (dC (.int 11))))) (dBin eqD (dVar 9) (dLst (nBin repN (dLst (nLst (lCons (dC (.str "stand")) lNil))) (dC (.int 6)))))))
def den__law_case_10 : DenS :=
    (sSeq (sNewM [7, 4] 9 (dLst (nLst (lCons (dRefused (dCallF F_trees (lCons (dVar 8) lNil))) (lCons (dRefused (dCallF F_worth (lCons (dVar 8) lNil))) (lCons (dRefused (dCallF F_cover (lCons (dVar 8) lNil))) (lCons (dRefused (dCallF F_always (lCons (dVar 8) lNil))) (lCons (dRefused (dCallF F_are_trees (lCons (dVar 8) (lCons (dTup lNil) lNil)))) (lCons (dRefused (dCallF F_is_cover (lCons (dVar 8) (lCons (dTup lNil) lNil)))) lNil)))))))))
    den__law_case_9)
def den__law_case_11 : DenS :=
    (sSeq (sAsgM [7, 4] (gSet 8) (dCallF F__law_pick (lCons (dVar 0) (lCons (dLst (nLst (lCons (dC .none) (lCons (dTup lNil) (lCons (dTup (lCons (dTup (lCons (dC (.int 0)) (lCons (dC (.int 1)) lNil))) lNil)) (lCons (dTup (lCons (dTup (lCons (dUn negD (dC (.int 2))) (lCons (dC (.int 1)) lNil))) lNil)) (lCons (dTup (lCons (dTup (lCons (dUn negD (dC (.int 1))) (lCons (dC (.int 1000)) lNil))) lNil)) (lCons (dTup (lCons (dTup (lCons (dUn negD (dC (.int 1))) (lCons (dUn negD (dC (.int 1))) lNil))) lNil)) (lCons (dLst (nLst (lCons (dTup (lCons (dUn negD (dC (.int 1))) (lCons (dC (.int 1)) lNil))) lNil))) (lCons (dBin mulD (dTup (lCons (dTup (lCons (dUn negD (dC (.int 1))) (lCons (dC (.int 1)) lNil))) lNil)) (dC (.int 17))) (lCons (dTup (lCons (dTup (lCons (dUn negD (dC (.int 1))) (lCons (dC (.bool true)) lNil))) lNil)) lNil))))))))))) lNil))))
    den__law_case_10)
def den__law_case_12 : DenS :=
    (sSeq (sNew 7 (dLst (nBin catN (dVar 7) (dLst (nComp (lSeq (dTup (lCons (dC .none) (lCons (dLst (nBlt listD (lCons (dVar 11) lNil))) (lCons (dBin addD (dVar 11) (dTup (lCons (dC (.int 0)) lNil))) (lCons (dBin mulD (dTup (lCons (dUn negD (dC (.int 1))) lNil)) (dBlt lenD (lCons (dVar 1) lNil))) (lCons (dBin mulD (dTup (lCons (dC (.int 1000)) lNil)) (dBlt lenD (lCons (dVar 1) lNil))) lNil))))))) (gSet 15) [15] bYes (dCallF F_is_cover (lCons (dVar 1) (lCons (dVar 15) lNil))))))))
    den__law_case_11)
def den__law_case_13 : DenS :=
    (sSeq (sNewM [4] 7 (dLst (nComp (lSeq (dTup (lCons (dC .none) (lCons (dLst (nBlt listD (lCons (dVar 10) lNil))) (lCons (dTup (lCons (dC (.int 0)) (lCons (dC (.int 0)) lNil))) (lCons (dTup (lCons (dBlt lenD (lCons (dVar 1) lNil)) lNil)) (lCons (dTup (lCons (dUn negD (dC (.int 1))) lNil)) (lCons (dTup (lCons (dC (.bool false)) lNil)) lNil)))))))) (gSet 15) [15] bYes (dCallF F_are_trees (lCons (dVar 1) (lCons (dVar 15) lNil))))))
    den__law_case_12)
def den__law_case_14 : DenS :=
    (sSeq (sForM [4] (lRange1 (lCons (dC (.int 6)) lNil)) (gSet 6)
      den__law_case_8)
    den__law_case_13)
def den__law_case_15 : DenS :=
    (sSeq (sIf (bNot (dTB (dCallF (F__law_alike 8) (lCons (dCallF F_always (lCons (dVar 1) lNil)) (lCons (dVar 5) lNil)))))
      (sRet (dC (.bool false)))
      sNext)
    den__law_case_14)
def den__law_case_16 : DenS :=
    (sSeq (sAsg (gSet 5) (dBlt tupleD (lCons (dLst (nComp (lRange1 (lCons (dBlt lenD (lCons (dVar 1) lNil)) lNil)) (gSet 14) [14] (dTB (dBin eqD (dLst (nComp (lSeq (dVar 4)) (gSet 12) [12] (dTB (dBin (fun x y => (inSq x y).map fun b => PyData.bool (!b)) (dVar 14) (dVar 12))) (dVar 12))) (dLst (nLst lNil)))) (dVar 14))) lNil)))
    den__law_case_15)
def den__law_case_17 : DenS :=
    (sSeq (sIf (bOr (dTB (dBin neD (dBlt lenD (lCons (dVar 11) lNil)) (dBlt lenD (lCons (dVar 1) lNil)))) (bOr (bNot (dTB (dCallF F__law_covers (lCons (dVar 1) (lCons (dVar 11) lNil))))) (bOr (dTB (dBin neD (dBlt sumD (lCons (dVar 11) lNil)) (dVar 3))) (bNot (dTB (dCallF F_is_cover (lCons (dVar 1) (lCons (dVar 11) lNil))))))))
      (sRet (dC (.bool false)))
      sNext)
    den__law_case_16)
def den__law_case_18 : DenS :=
    (sSeq (sIf (bOr (bNot (dTB (dCallF (F__law_alike 8) (lCons (dCallF F_worth (lCons (dVar 1) lNil)) (lCons (dVar 3) lNil))))) (bOr (dTB (dBin (fun x y => (inSq x y).map fun b => PyData.bool (!b)) (dVar 10) (dVar 4))) (bNot (dTB (dCallF F_are_trees (lCons (dVar 1) (lCons (dVar 10) lNil)))))))
      (sRet (dC (.bool false)))
      sNext)
    den__law_case_17)
def den__law_case_19 : DenS :=
    (sSeq (sPar [4] [10, 11] (lCons (dCallF F_trees (lCons (dVar 1) lNil)) (lCons (dCallF F_cover (lCons (dVar 1) lNil)) lNil)))
    den__law_case_18)
def den__law_case_20 : DenS :=
    (sSeq (sNewM [] 4 (dLst (nComp (lSeq (dVar 2)) (gSet 12) [12] (dTB (dBin eqD (dCallF F__law_sum (lCons (dVar 1) (lCons (dVar 12) lNil))) (dVar 3))) (dVar 12))))
    den__law_case_19)
def den__law_case_21 : DenS :=
    (sSeq (sAsgM [] (gSet 3) (dBlt (maxTy .int) (lCons (dLst (nComp (lSeq (dVar 2)) (gSet 12) [12] bYes (dCallF F__law_sum (lCons (dVar 1) (lCons (dVar 12) lNil))))) lNil)))
    den__law_case_20)
def den__law_case_22 : DenS :=
    (sSeq (sAsgM [] (gSet 2) (dCallF F__law_sets (lCons (dVar 1) lNil)))
    den__law_case_21)
def den__law_case : DenS :=
    (sSeq (sAsgM [] (gSet 1) (dCallF F__law_stand (lCons (dVar 0) lNil)))
    den__law_case_22)
def F__law_case : List PyData → Ev.Row → Res PyData := callF 15 den__law_case
theorem sc__law_case : FnScope ["row", "stand", "sets", "most", "best", "due", "turn", "wrong", "odd", "told", "found", "over", "some", "other", "at", "value"] ["row"] (defScope s__law_case) := ⟨rfl, rfl, rfl, by decide +kernel, rfl, by decide +kernel, by decide +kernel⟩
theorem nd__law_case : (["row", "stand", "sets", "most", "best", "due", "turn", "wrong", "odd", "told", "found", "over", "some", "other", "at", "value"] : List Str).Nodup := by decide +kernel
theorem w__law_case (bl : Blts mg) (f__law_alike : Fn P w K mg base c 8 "_law_alike" ["found", "due"] (F__law_alike 8)) (f__law_covers : Fn P w K mg base c 1 "_law_covers" ["stand", "value"] F__law_covers) (f__law_pick : Fn P w K mg base c 2 "_law_pick" ["row", "some"] F__law_pick) (f__law_sets : Fn P w K mg base c 1 "_law_sets" ["stand"] F__law_sets) (f__law_stand : Fn P w K mg base c 3 "_law_stand" ["row"] F__law_stand) (f__law_sum : Fn P w K mg base c 1 "_law_sum" ["stand", "some"] F__law_sum) (f__law_taken : Fn P w K mg base c 1 "_law_taken" ["row", "many"] F__law_taken) (f_always : Fn P w K mg base c 4 "always" ["stand"] F_always) (f_are_trees : Fn P w K mg base c 4 "are_trees" ["stand", "value"] F_are_trees) (f_cover : Fn P w K mg base c 4 "cover" ["stand"] F_cover) (f_is_cover : Fn P w K mg base c 4 "is_cover" ["stand", "value"] F_is_cover) (f_trees : Fn P w K mg base c 4 "trees" ["stand"] F_trees) (f_worth : Fn P w K mg base c 4 "worth" ["stand"] F_worth) (f_worth_of : Fn P w K mg base c 5 "worth_of" ["stand", "value"] F_worth_of) {cc PP : Addr} (B : Bad P w K mg base c.CB) (rf : RefK K mg s__law_refused) (TB : LamX.TabB base mg cc PP) (hT : c.T = [(PP, (("_law_case" : Str) ++ ".<locals>.") ++ "<lambda>")]) {f : Addr} {fd : FuncData} (F : FunC K "_law_case" s__law_case f fd (.ref cc)) (hm : mg "_law_case" = some (.ref f)) : Fn P w K mg base c 9 "_law_case" ["row"] F__law_case :=
  fn_body (OL := []) F sc__law_case hm rfl (fun _ _ _ _ _ _ us hl => match us, hl with | [_], _ => rfl) (fun _ _ _ _ _ _ us ws ks h1 h2 h3 => match us, ws, h2 with | [], [_], _ => by subst h1; rfl | [_], [], _ => absurd rfl h3) fun A outer s H E hr => have nd := nd__law_case; (dss_cons (ds_setM [] 1 nd (de_call f__law_stand hr (by decide) cx_pass (das_cons (de_var 0) das_nil) (len_cons len_nil)))
    (dss_cons (ds_setM [] 2 nd (de_call f__law_sets hr (by decide) cx_pass (das_cons (de_var 1) das_nil) (len_cons len_nil)))
    (dss_cons (ds_setM [] 3 nd (de_blt (blt_maxTy (t := .int) rfl hr.units) (das_cons (DN.de (dn_comp (own := [("some", 12)]) rfl nd (tok_name 12) (di_seq (de_var 2)) rfl rfl (fun s H C cl fp => (dg_name 12 nd)) (fun s H C cl fp => dts_nil) (fun s H C cl fp => (de_call f__law_sum hr (by decide) passL (das_cons (de_var 1) (das_cons (de_var 12) das_nil)) (len_cons (len_cons len_nil)))))) das_nil) bl.max))
    (dss_cons (ds_newM [] (da_set 4 nd (DN.df (dn_comp (own := [("some", 12)]) rfl nd (tok_name 12) (di_seq (de_var 2)) rfl rfl (fun s H C cl fp => (dg_name 12 nd)) (fun s H C cl fp => (dts_one (dt_cmp (dc_cm (cmD_eq hr.units) (de_call f__law_sum hr (by decide) passL (das_cons (de_var 1) (das_cons (de_var 12) das_nil)) (len_cons (len_cons len_nil))) (de_var 3))))) (fun s H C cl fp => (de_var 12))))))
    (dss_cons (ds_par [4] 10 11 rfl nd (dxs_old (de_call f_trees hr (by decide) cx_pass (das_cons (de_var 1) das_nil) (len_cons len_nil)) (dxs_old (de_call f_cover hr (by decide) cx_pass (das_cons (de_var 1) das_nil) (len_cons len_nil)) dxs_nil)))
    (dss_cons (ds_if (DW.dt (dw_or (dt_not (dt_val (de_call f__law_alike hr (by decide) cx_pass (das_cons (de_call f_worth hr (by decide) cx_pass (das_cons (de_var 1) das_nil) (len_cons len_nil)) (das_cons (de_var 3) das_nil)) (len_cons (len_cons len_nil))))) (dw_or (dt_cmp (dc_cm (cmD_notin hr.u65) (de_var 10) (de_var 4))) (dw_or1 (dt_not (dt_val (de_call f_are_trees hr (by decide) cx_pass (das_cons (de_var 1) (das_cons (de_var 10) das_nil)) (len_cons (len_cons len_nil)))))))))
      (dss_one (ds_ret (O1 := [4]) de_bool))
      dss_nil)
    (dss_cons (ds_if (DW.dt (dw_or (dt_cmp (dc_cm (cmD_ne hr.units) (de_blt blt_len (das_cons (de_var 11) das_nil) bl.len) (de_blt blt_len (das_cons (de_var 1) das_nil) bl.len))) (dw_or (dt_not (dt_val (de_call f__law_covers hr (by decide) cx_pass (das_cons (de_var 1) (das_cons (de_var 11) das_nil)) (len_cons (len_cons len_nil))))) (dw_or (dt_cmp (dc_cm (cmD_ne hr.units) (de_blt (blt_sum rfl) (das_cons (de_var 11) das_nil) bl.sum) (de_var 3))) (dw_or1 (dt_not (dt_val (de_call f_is_cover hr (by decide) cx_pass (das_cons (de_var 1) (das_cons (de_var 11) das_nil)) (len_cons (len_cons len_nil))))))))))
      (dss_one (ds_ret (O1 := [4]) de_bool))
      dss_nil)
    (dss_cons (ds_set 5 nd (de_bty blt_tuple (das_cons (DN.de (dn_comp (own := [("at", 14)]) rfl nd (tok_name 14) (di_range1 (das_cons (de_blt blt_len (das_cons (de_var 1) das_nil) bl.len) das_nil) bl.range) rfl rfl (fun s H C cl fp => (dg_name 14 nd)) (fun s H C cl fp => (dts_one (dt_cmp (dc_cm (cmD_eq hr.units) (DN.de (dn_comp (own := [("some", 12)]) rfl nd (tok_name 12) (di_seq (de_var 4)) rfl rfl (fun s H C cl fp => (dg_name 12 nd)) (fun s H C cl fp => (dts_one (dt_cmp (dc_cm (cmD_notin hr.u65) (de_var 14) (de_var 12))))) (fun s H C cl fp => (de_var 12)))) (DN.de (dn_lst das_nil)))))) (fun s H C cl fp => (de_var 14)))) das_nil) bl.tuple))
    (dss_cons (ds_if (dt_not (dt_val (de_call f__law_alike hr (by decide) cx_pass (das_cons (de_call f_always hr (by decide) cx_pass (das_cons (de_var 1) das_nil) (len_cons len_nil)) (das_cons (de_var 5) das_nil)) (len_cons (len_cons len_nil)))))
      (dss_one (ds_ret (O1 := [4]) de_bool))
      dss_nil)
    (dss_cons (ds_forM [4] (passes_of rfl) rfl (tok_name 6) (di_range1 (das_cons de_int das_nil) bl.range) (dg_name 6 nd)
      (DSs.weak (O1 := [4]) (O2 := [13, 4]) (dss_cons (ds_setM [4] 12 nd (de_bty blt_tuple (das_cons (DN.de (dn_sortSet rfl (DN.de (dn_comp (own := [("at", 14)]) rfl nd (tok_name 14) (di_range1 (das_cons (de_call f__law_taken hr (by decide) cx_pass (das_cons (de_var 0) (das_cons de_int das_nil)) (len_cons (len_cons len_nil))) das_nil) bl.range) rfl rfl (fun s H C cl fp => (dg_name 14 nd)) (fun s H C cl fp => dts_nil) (fun s H C cl fp => (de_call f__law_taken hr (by decide) passL (das_cons (de_var 0) (das_cons (de_blt blt_len (das_cons (de_var 1) das_nil) bl.len) das_nil)) (len_cons (len_cons len_nil)))))) bl.sorted bl.set)) das_nil) bl.tuple))
    (dss_cons (ds_if (dt_cmp (dc_cm cmD_notB (de_callK f_are_trees hr (by decide) cx_pass (das_cons (de_var 1) das_nil) (dk_cons (de_var 12) dk_nil) (len_cons len_nil) (len_cons len_nil) rfl rfl (by decide)) (de_cmp (dc_cm (cmD_in hr.u65) (de_var 12) (de_var 2)))))
      (dss_one (ds_ret (O1 := [4]) de_bool))
      dss_nil)
    (dss_cons (ds_if (DW.dt (dw_and (dt_cmp (dc_cm (cmD_in hr.u65) (de_var 12) (de_var 2))) (dw_and1 (dt_not (dt_val (de_call f__law_alike hr (by decide) cx_pass (das_cons (de_call f_worth_of hr (by decide) cx_pass (das_cons (de_var 1) (das_cons (de_var 12) das_nil)) (len_cons (len_cons len_nil))) (das_cons (de_call f__law_sum hr (by decide) cx_pass (das_cons (de_var 1) (das_cons (de_var 12) das_nil)) (len_cons (len_cons len_nil))) das_nil)) (len_cons (len_cons len_nil))))))))
      (dss_one (ds_ret (O1 := [4]) de_bool))
      dss_nil)
    (dss_cons (ds_if (DW.dt (dw_and (dt_cmp (dc_cm (cmD_notin hr.u65) (de_var 12) (de_var 2))) (dw_and1 (dt_cmp (dc_cm (cmD_ne hr.units) (de_ref 5 B rf TB rfl hT hr (by decide) (fun A outer s H E f c' hr => (de_call f_worth_of hr (by decide) lam_pass (das_cons (de_var 1) (das_cons (de_var 12) das_nil)) (len_cons (len_cons len_nil))))) de_str)))))
      (dss_one (ds_ret (O1 := [4]) de_bool))
      dss_nil)
    (dss_cons (ds_newM [4] (da_set 13 nd (DN.df (dn_bty blt_list (das_cons (de_var 11) das_nil) bl.list))))
    (dss_cons (ds_set 14 nd (de_call f__law_taken hr (by decide) cx_pass (das_cons (de_var 0) (das_cons (de_blt blt_len (das_cons (de_var 13) das_nil) bl.len) das_nil)) (len_cons (len_cons len_nil))))
    (dss_cons (ds_setI 13 hr.u1 (de_blt (blt_max2 rfl) (das_cons de_int (das_cons (de_blt (blt_min2 rfl) (das_cons de_int (das_cons (de_bin opD_sub (de_bin opD_add (de_idx hr.u1 (de_var 13) (de_var 14)) (de_call f__law_taken hr (by decide) cx_pass (das_cons (de_var 0) (das_cons de_int das_nil)) (len_cons (len_cons len_nil)))) de_int) das_nil)) bl.min) das_nil)) bl.max) (de_var 14))
    (dss_one (ds_if (dt_cmp (dc_cm cmD_notB (de_callK f_is_cover hr (by decide) cx_pass (das_cons (de_var 1) das_nil) (dk_cons (de_bty blt_tuple (das_cons (de_var 13) das_nil) bl.tuple) dk_nil) (len_cons len_nil) (len_cons len_nil) rfl rfl (by decide)) (de_call f__law_covers hr (by decide) cx_pass (das_cons (de_var 1) (das_cons (de_var 13) das_nil)) (len_cons (len_cons len_nil)))))
      (dss_one (ds_ret (O1 := [13, 4]) de_bool))
      dss_nil))))))))) (by decide) (by decide)))
    (dss_cons (ds_newM [4] (da_comp 7 (own := [("value", 15)]) rfl nd (tok_name 15) (di_seq (de_tup (das_cons de_none (das_cons (DN.de (dn_bty blt_list (das_cons (de_var 10) das_nil) bl.list)) (das_cons (de_tup (das_cons de_int (das_cons de_int das_nil))) (das_cons (de_tup (das_cons (de_blt blt_len (das_cons (de_var 1) das_nil) bl.len) das_nil)) (das_cons (de_tup (das_cons (de_neg de_int) das_nil)) (das_cons (de_tup (das_cons de_bool das_nil)) das_nil)))))))) rfl rfl (fun s H C cl fp => (dg_name 15 nd)) (fun s H C cl fp => dts_nil) (fun s H C cl fp => (de_call f_are_trees hr (by decide) passL (das_cons (de_var 1) (das_cons (de_var 15) das_nil)) (len_cons (len_cons len_nil))))))
    (dss_cons (ds_new (da_set 7 nd (DN.df (dn_cat (de_var 7) (DN.de (dn_comp (own := [("value", 15)]) rfl nd (tok_name 15) (di_seq (de_tup (das_cons de_none (das_cons (DN.de (dn_bty blt_list (das_cons (de_var 11) das_nil) bl.list)) (das_cons (de_bin opD_add (de_var 11) (de_tup (das_cons de_int das_nil))) (das_cons (de_bin opD_mul (de_tup (das_cons (de_neg de_int) das_nil)) (de_blt blt_len (das_cons (de_var 1) das_nil) bl.len)) (das_cons (de_bin opD_mul (de_tup (das_cons de_int das_nil)) (de_blt blt_len (das_cons (de_var 1) das_nil) bl.len)) das_nil))))))) rfl rfl (fun s H C cl fp => (dg_name 15 nd)) (fun s H C cl fp => dts_nil) (fun s H C cl fp => (de_call f_is_cover hr (by decide) passL (das_cons (de_var 1) (das_cons (de_var 15) das_nil)) (len_cons (len_cons len_nil))))))))))
    (dss_cons (ds_setM [7, 4] 8 nd (de_call f__law_pick hr (by decide) cx_pass (das_cons (de_var 0) (das_cons (DN.de (dn_lst (das_cons de_none (das_cons (de_tup das_nil) (das_cons (de_tup (das_cons (de_tup (das_cons de_int (das_cons de_int das_nil))) das_nil)) (das_cons (de_tup (das_cons (de_tup (das_cons (de_neg de_int) (das_cons de_int das_nil))) das_nil)) (das_cons (de_tup (das_cons (de_tup (das_cons (de_neg de_int) (das_cons de_int das_nil))) das_nil)) (das_cons (de_tup (das_cons (de_tup (das_cons (de_neg de_int) (das_cons (de_neg de_int) das_nil))) das_nil)) (das_cons (DN.de (dn_lst (das_cons (de_tup (das_cons (de_neg de_int) (das_cons de_int das_nil))) das_nil))) (das_cons (de_bin opD_mul (de_tup (das_cons (de_tup (das_cons (de_neg de_int) (das_cons de_int das_nil))) das_nil)) de_int) (das_cons (de_tup (das_cons (de_tup (das_cons (de_neg de_int) (das_cons de_bool das_nil))) das_nil)) das_nil))))))))))) das_nil)) (len_cons (len_cons len_nil))))
    (dss_cons (ds_newM [7, 4] (da_set 9 nd (DN.df (dn_lst (das_cons (de_ref 5 B rf TB rfl hT hr (by decide) (fun A outer s H E f c' hr => (de_call f_trees hr (by decide) lam_pass (das_cons (de_var 8) das_nil) (len_cons len_nil)))) (das_cons (de_ref 5 B rf TB rfl hT hr (by decide) (fun A outer s H E f c' hr => (de_call f_worth hr (by decide) lam_pass (das_cons (de_var 8) das_nil) (len_cons len_nil)))) (das_cons (de_ref 5 B rf TB rfl hT hr (by decide) (fun A outer s H E f c' hr => (de_call f_cover hr (by decide) lam_pass (das_cons (de_var 8) das_nil) (len_cons len_nil)))) (das_cons (de_ref 5 B rf TB rfl hT hr (by decide) (fun A outer s H E f c' hr => (de_call f_always hr (by decide) lam_pass (das_cons (de_var 8) das_nil) (len_cons len_nil)))) (das_cons (de_ref 5 B rf TB rfl hT hr (by decide) (fun A outer s H E f c' hr => (de_call f_are_trees hr (by decide) lam_pass (das_cons (de_var 8) (das_cons (de_tup das_nil) das_nil)) (len_cons (len_cons len_nil))))) (das_cons (de_ref 5 B rf TB rfl hT hr (by decide) (fun A outer s H E f c' hr => (de_call f_is_cover hr (by decide) lam_pass (das_cons (de_var 8) (das_cons (de_tup das_nil) das_nil)) (len_cons (len_cons len_nil))))) das_nil))))))))))
    (dss_one (ds_ret (O1 := [9, 7, 4]) (de_and (de_cmp (dc_cm (cmD_eq hr.units) (de_var 7) (DN.de (dn_rep (DN.de (dn_lst (das_cons de_bool das_nil))) de_int)))) (de_one (de_cmp (dc_cm (cmD_eq hr.units) (de_var 9) (DN.de (dn_rep (DN.de (dn_lst (das_cons de_str das_nil))) de_int))))))))))))))))))))))
abbrev s_law : Stmt := top 31
def den_law : DenS :=
    (sSeq (sForM [] (lRange1 (lCons (dC (.int 4)) lNil)) (gSet 2)
      (sIf (bNot (dTB (dCallF F__law_case (lCons (dVar 1) lNil))))
      (sRet (dC (.bool false)))
      sNext))
    (sRet (dC (.bool true))))
theorem sc_law : FnScope ["script", "row", "turn"] ["script"] (defScope s_law) := ⟨rfl, rfl, rfl, by decide +kernel, rfl, by decide +kernel, by decide +kernel⟩
theorem nd_law : (["script", "row", "turn"] : List Str).Nodup := by decide +kernel
theorem w_law (bl : Blts mg) (f__law_case : Fn P w K mg base c 9 "_law_case" ["row"] F__law_case) {f : Addr} {fd : FuncData} {cdv : Value} (F : FunC K "law" s_law f fd cdv)
    (hden : ∀ ns : List Int, ns.length ≤ 63 → (∀ z ∈ ns, Builtin.Int.intBits z ≤ 1048576) → ∃ R', den_law [none, some rowD, none] ⟨ns, 0, 20011, 0⟩ = .ok (.rt (.bool true)) R') : FnOk P w K mg base (L2.CX P w) 10 f fd ["script"] (spLaw K c) :=
  fn_law (OL := []) F sc_law rfl (hbody := fun A outer s H E hr => have nd := nd_law; (dss_cons (ds_forM [] (passes_of rfl) rfl (tok_name 2) (di_range1 (das_cons de_int das_nil) bl.range) (dg_name 2 nd)
      (dss_one (ds_if (dt_not (dt_val (de_call f__law_case hr (by decide) cx_pass (das_cons (de_var 1) das_nil) (len_cons len_nil))))
      (dss_one (ds_ret (O1 := []) de_bool))
      dss_nil)))
    (dss_one (ds_ret (O1 := []) de_bool)))) (hden := hden)
end
end K20

/-! Ty: programs over typed values; what stands for what -/
namespace Ty
open PySem PySem.Spec Ev
abbrev M (α : Type) := Ev.Row → Res α
section
variable {α β γ δ σ τ : Type}
def rtn (a : α) : M α := fun R => .ok a R
def stk : M α := fun _ => .stuck
def rse (nm : Str) : M α := fun R => .exc nm R
def bnd (m : M α) (f : α → M β) : M β := fun R => (m R).bind f
def opt (o : Option α) : M α := fun R => ofO o R
@[simp] theorem bnd_rtn (a : α) (f : α → M β) : bnd (rtn a) f = f a := eqr rfl
@[simp] theorem bnd_stk (f : α → M β) : bnd (stk : M α) f = stk := eqr rfl
@[simp] theorem bnd_rse (nm : Str) (f : α → M β) : bnd (rse nm : M α) f = rse nm := eqr rfl
@[simp] theorem bnd_bnd (m : M α) (f : α → M β) (g : β → M γ) : bnd (bnd m f) g = bnd m fun a => bnd (f a) g := by
  funext R
  show ((m R).bind f).bind g = (m R).bind _
  cases m R <;> rfl
@[simp] theorem bnd_rtn' (m : M α) : bnd m rtn = m := by
  funext R
  show (m R).bind _ = _
  cases m R <;> rfl
@[simp] theorem opt_some (a : α) : opt (some a) = rtn a := eqr rfl
@[simp] theorem opt_none : (opt none : M α) = stk := eqr rfl
theorem bnd_ite (c : Prop) [Decidable c] (x y : M α) (f : α → M β) : bnd (if c then x else y) f = if c then bnd x f else bnd y f := by split <;> rfl
/-- the guards of the model -/
@[irreducible] def grd (b : Bool) (m : M α) : M α := if b then m else stk
theorem grd_def (b : Bool) (m : M α) : grd b m = if b then m else stk := by unfold grd; rfl
@[simp] theorem grd_t (m : M α) : grd true m = m := by unfold grd; rfl
/-! ### what stands for what -/
def SimR (x : Res β) (y : Res α) (Φ : α → β → Prop) : Prop := match y with
  | .ok a R => ∃ b, x = .ok b R ∧ Φ a b
  | .exc n R => x = .exc n R
  | .stuck => True
def RR (X : Ev.Row → Res β) (m : M α) (Φ : α → β → Prop) : Prop := ∀ R, SimR (X R) (m R) Φ
abbrev RE (X : Ev.Row → Res PyData) (e : α → PyData) (m : M α) : Prop := RR X m fun a b => b = e a
abbrev RB (X : Ev.Row → Res Bool) (m : M Bool) : Prop := RR X m fun a b => b = a
abbrev RL (X : Ev.Row → Res (List PyData)) (e : α → PyData) (m : M (List α)) : Prop := RR X m fun a b => b = a.map e
theorem RR.bind {X : Ev.Row → Res β} {Y : β → Ev.Row → Res δ} {m : M α} {f : α → M γ} {Φ : α → β → Prop} {Ψ : γ → δ → Prop} (h : RR X m Φ) (k : ∀ a b, Φ a b → RR (Y b) (f a) Ψ) : RR (fun R => (X R).bind Y) (bnd m f) Ψ := fun R => by
  have h := h R
  show SimR ((X R).bind Y) ((m R).bind f) Ψ
  unfold SimR at h
  cases e : m R with
  | ok a R1 =>
    rw [e] at h
    obtain ⟨b, e1, p⟩ := h
    rw [e1]
    exact k a b p R1
  | exc n R1 =>
    rw [e] at h
    have h : X R = .exc n R1 := h
    rw [h]
    exact (rfl : _ = _)
  | stuck => exact True.intro
theorem RR.ebind {X : Ev.Row → Res β} {Y : β → Ev.Row → Res δ} {m : M α} {f : α → M γ} {e : α → β} {Ψ : γ → δ → Prop} (h : RR X m fun a b => b = e a) (k : ∀ a, RR (Y (e a)) (f a) Ψ) : RR (fun R => (X R).bind Y) (bnd m f) Ψ := h.bind fun a b hb => by subst hb; exact k a
theorem RR.ok {a : α} {b : β} {Φ : α → β → Prop} (h : Φ a b) : RR (fun R => .ok b R) (rtn a) Φ := fun R => ⟨b, rfl, h⟩
theorem RR.stk {X : Ev.Row → Res β} {Φ : α → β → Prop} : RR X (stk : M α) Φ := fun R => True.intro
theorem RR.ofO {o : Option β} {q : Option α} {e : α → β} (h : ∀ a, q = some a → o = some (e a)) : RR (fun R => ofO o R) (opt q) fun a b => b = e a := fun R => by
  cases q with
  | none => exact True.intro
  | some a => rw [h a rfl]; exact ⟨_, rfl, rfl⟩
theorem RR.ofS {b : β} {a : α} {e : α → β} (h : b = e a) : RR (fun R => Ev.ofO (some b) R) (rtn a) fun a b => b = e a := fun R => ⟨_, rfl, h⟩
theorem RR.ite {X : Ev.Row → Res β} {m : M α} {Φ : α → β → Prop} {c : Prop} [Decidable c] (h : c → RR X m Φ) : RR X (if c then m else Ty.stk) Φ := by
  split
  · exact h ‹_›
  · exact RR.stk
theorem RR.ites {X Y : Ev.Row → Res β} {m n : M α} {Φ : α → β → Prop} {c : Prop} [Decidable c] (h : RR X m Φ) (k : RR Y n Φ) : RR (fun R => if c then X R else Y R) (if c then m else n) Φ := by
  split
  · exact h
  · exact k
theorem RR.conv {X : Ev.Row → Res β} {m n : M α} {Φ : α → β → Prop} (h : RR X m Φ) (e : m = n) : RR X n Φ := e ▸ h
theorem RR.imp {X : Ev.Row → Res β} {m : M α} {Φ Ψ : α → β → Prop} (h : RR X m Φ) (k : ∀ a b, Φ a b → Ψ a b) : RR X m Ψ := fun R => by
  have h := h R
  unfold SimR at h ⊢
  split
  · rename_i e
    rw [e] at h
    obtain ⟨b, e1, p⟩ := h
    exact ⟨b, e1, k _ _ p⟩
  · rename_i e
    rw [e] at h
    exact h
  · exact True.intro
/-! ### encodings -/
def eA (d : PyData) : PyData := d
def eI (i : Int) : PyData := .int i
def eB (b : Bool) : PyData := .bool b
def eS (s : Str) : PyData := .str s
def eU (_ : Unit) : PyData := .none
def eT (e : α → PyData) (xs : List α) : PyData := .tuple (xs.map e)
def eL (e : α → PyData) (xs : List α) : PyData := .list (xs.map e)
def eO (e : α → PyData) (o : Option α) : PyData := match o with
  | none => .none
  | some a => e a
def eP1 (e : α → PyData) (x : α) : PyData := .tuple [e x]
def eP2 (e1 : α → PyData) (e2 : β → PyData) (x : α × β) : PyData := .tuple [e1 x.1, e2 x.2]
def eP3 (e1 : α → PyData) (e2 : β → PyData) (e3 : γ → PyData) (x : α × β × γ) : PyData := .tuple [e1 x.1, e2 x.2.1, e3 x.2.2]
def eP4 (e1 : α → PyData) (e2 : β → PyData) (e3 : γ → PyData) (e4 : δ → PyData) (x : α × β × γ × δ) : PyData := .tuple [e1 x.1, e2 x.2.1, e3 x.2.2.1, e4 x.2.2.2]
def eD (k : α → PyData) (e : β → PyData) (D : List (α × β)) : PyData := .dict (D.map fun p => (k p.1, e p.2))
-- pure within
def PuE (e : α → PyData) : Prop := ∀ a, pureD (e a) = true
theorem pu_I : PuE eI := fun _ => rfl
theorem pu_B : PuE eB := fun _ => rfl
theorem pu_S : PuE eS := fun _ => rfl
theorem pu_U : PuE eU := fun _ => rfl
theorem pureA_map {e : α → PyData} (h : PuE e) : ∀ xs : List α, pureA (xs.map e) = true
  | [] => rfl
  | a :: l => by simp [pureA, h a, pureA_map h l]
theorem pu_T {e : α → PyData} (h : PuE e) : PuE (eT e) := fun xs => pureA_map h xs
theorem pu_O {e : α → PyData} (h : PuE e) : PuE (eO e) := fun o => by cases o; exact rfl; exact h _
theorem pu_P1 {e : α → PyData} (h : PuE e) : PuE (eP1 e) := fun x => by simp [eP1, pureD, pureA, h x]
theorem pu_P2 {e1 : α → PyData} {e2 : β → PyData} (h1 : PuE e1) (h2 : PuE e2) : PuE (eP2 e1 e2) := fun x => by simp [eP2, pureD, pureA, h1 x.1, h2 x.2]
theorem pu_P3 {e1 : α → PyData} {e2 : β → PyData} {e3 : γ → PyData} (h1 : PuE e1) (h2 : PuE e2) (h3 : PuE e3) : PuE (eP3 e1 e2 e3) := fun x => by simp [eP3, pureD, pureA, h1 x.1, h2 x.2.1, h3 x.2.2]
theorem pu_P4 {e1 : α → PyData} {e2 : β → PyData} {e3 : γ → PyData} {e4 : δ → PyData} (h1 : PuE e1) (h2 : PuE e2) (h3 : PuE e3) (h4 : PuE e4) : PuE (eP4 e1 e2 e3 e4) := fun x => by simp [eP4, pureD, pureA, h1 x.1, h2 x.2.1, h3 x.2.2.1, h4 x.2.2.2]
-- what a list or dict holds is pure
def PiE (e : α → PyData) : Prop := ∀ a, pureIn (e a) = true
theorem pi_L {e : α → PyData} (h : PuE e) : PiE (eL e) := fun xs => pureA_map h xs
theorem pi_D {k : α → PyData} {e : β → PyData} (h : PuE e) : PiE (eD k e) := fun D => by simp [eD, pureIn]; intro a b _; exact h b
-- shapes
def ShE (n : Nat) (e : α → PyData) : Prop := ∀ a, shp n (e a) = true
theorem sh_I {n : Nat} : ShE (n + 1) eI := fun _ => rfl
theorem sh_B {n : Nat} : ShE (n + 1) eB := fun _ => rfl
theorem sh_U {n : Nat} : ShE (n + 1) eU := fun _ => rfl
theorem sh_T {n : Nat} {e : α → PyData} (h : ShE n e) : ShE (n + 1) (eT e) := fun xs => by simp [eT]; exact fun a _ => h a
theorem sh_L {n : Nat} {e : α → PyData} (h : ShE n e) : ShE (n + 1) (eL e) := fun xs => by simp [eL]; exact fun a _ => h a
theorem sh_O {n : Nat} {e : α → PyData} (h : ShE (n + 1) e) : ShE (n + 1) (eO e) := fun o => by cases o; exact rfl; exact h _
theorem sh_P1 {n : Nat} {e : α → PyData} (h : ShE n e) : ShE (n + 1) (eP1 e) := fun x => by simp [eP1, h x]
theorem sh_P2 {n : Nat} {e1 : α → PyData} {e2 : β → PyData} (h1 : ShE n e1) (h2 : ShE n e2) : ShE (n + 1) (eP2 e1 e2) := fun x => by simp [eP2, h1 x.1, h2 x.2]
theorem sh_P3 {n : Nat} {e1 : α → PyData} {e2 : β → PyData} {e3 : γ → PyData} (h1 : ShE n e1) (h2 : ShE n e2) (h3 : ShE n e3) : ShE (n + 1) (eP3 e1 e2 e3) := fun x => by simp [eP3, h1 x.1, h2 x.2.1, h3 x.2.2]
theorem sh_P4 {n : Nat} {e1 : α → PyData} {e2 : β → PyData} {e3 : γ → PyData} {e4 : δ → PyData} (h1 : ShE n e1) (h2 : ShE n e2) (h3 : ShE n e3) (h4 : ShE n e4) : ShE (n + 1) (eP4 e1 e2 e3 e4) := fun x => by simp [eP4, h1 x.1, h2 x.2.1, h3 x.2.2.1, h4 x.2.2.2]
-- kinds
def HtE (t : Ev.Ty) (e : α → PyData) : Prop := ∀ a, hasTy t (e a) = true
theorem ht_I : HtE .int eI := fun _ => rfl
theorem ht_B : HtE .bool eB := fun _ => rfl
theorem ht_T {t : Ev.Ty} {e : α → PyData} (h : HtE t e) : HtE (.seq t) (eT e) := fun xs => by simp [eT, hasTy]; exact fun a _ => h a
theorem ht_L {t : Ev.Ty} {e : α → PyData} (h : HtE t e) : HtE (.lsq t) (eL e) := fun xs => by simp [eL, hasTy]; exact fun a _ => h a
theorem ht_P1 {t : Ev.Ty} {e : α → PyData} (h : HtE t e) : HtE (.tup [t]) (eP1 e) := fun x => by simp [eP1, hasTy, hasTys, h x]
theorem ht_P2 {t1 t2 : Ev.Ty} {e1 : α → PyData} {e2 : β → PyData} (h1 : HtE t1 e1) (h2 : HtE t2 e2) : HtE (.tup [t1, t2]) (eP2 e1 e2) := fun x => by simp [eP2, hasTy, hasTys, h1 x.1, h2 x.2]
theorem ht_P3 {t1 t2 t3 : Ev.Ty} {e1 : α → PyData} {e2 : β → PyData} {e3 : γ → PyData} (h1 : HtE t1 e1) (h2 : HtE t2 e2) (h3 : HtE t3 e3) : HtE (.tup [t1, t2, t3]) (eP3 e1 e2 e3) := fun x => by simp [eP3, hasTy, hasTys, h1 x.1, h2 x.2.1, h3 x.2.2]
theorem ht_P4 {t1 t2 t3 t4 : Ev.Ty} {e1 : α → PyData} {e2 : β → PyData} {e3 : γ → PyData} {e4 : δ → PyData} (h1 : HtE t1 e1) (h2 : HtE t2 e2) (h3 : HtE t3 e3) (h4 : HtE t4 e4) : HtE (.tup [t1, t2, t3, t4]) (eP4 e1 e2 e3 e4) := fun x => by simp [eP4, hasTy, hasTys, h1 x.1, h2 x.2.1, h3 x.2.2.1, h4 x.2.2.2]
-- the same
def EqE [DecidableEq α] (e : α → PyData) : Prop := ∀ a b, PyData.eqv (e a) (e b) = decide (a = b)
theorem eq_I : EqE eI := fun a b => by simp [eI, PyData.eqv]; rfl
theorem eq_B : EqE eB := fun a b => by cases a <;> cases b <;> rfl
theorem eq_S : EqE eS := fun a b => by simp [eS, PyData.eqv]; rfl
theorem eq_U : EqE eU := fun a b => rfl
theorem eqvAll_map [DecidableEq α] {e : α → PyData} (h : EqE e) : ∀ xs ys : List α, PyData.eqvAll (xs.map e) (ys.map e) = decide (xs = ys)
  | [], [] => by simp [PyData.eqvAll]
  | [], _ :: _ => by simp [PyData.eqvAll]
  | _ :: _, [] => by simp [PyData.eqvAll]
  | a :: xs, b :: ys => by
    rw [List.map_cons, List.map_cons, PyData.eqvAll, eqvAll_map h xs ys, h a b]
    by_cases h : a = b <;> by_cases h2 : xs = ys <;> simp [h, h2]
theorem eq_T [DecidableEq α] {e : α → PyData} (h : EqE e) : EqE (eT e) := fun xs ys => by
  unfold eT
  rw [PyData.eqv]
  exact eqvAll_map h xs ys
theorem eq_L [DecidableEq α] {e : α → PyData} (h : EqE e) : EqE (eL e) := fun xs ys => by
  unfold eL
  rw [PyData.eqv]
  exact eqvAll_map h xs ys
theorem eq_P1 [DecidableEq α] {e : α → PyData} (h : EqE e) : EqE (eP1 e) := fun x y => by
  unfold eP1
  rw [PyData.eqv, PyData.eqvAll, PyData.eqvAll, h]
  simp
theorem eq_P2 [DecidableEq α] [DecidableEq β] {e1 : α → PyData} {e2 : β → PyData} (h1 : EqE e1) (h2 : EqE e2) : EqE (eP2 e1 e2) := fun x y => by
  unfold eP2
  rw [PyData.eqv, PyData.eqvAll, PyData.eqvAll, PyData.eqvAll, h1, h2, Bool.eq_iff_iff]
  simp [Prod.ext_iff]
theorem eq_P3 [DecidableEq α] [DecidableEq β] [DecidableEq γ] {e1 : α → PyData} {e2 : β → PyData} {e3 : γ → PyData} (h1 : EqE e1) (h2 : EqE e2) (h3 : EqE e3) : EqE (eP3 e1 e2 e3) := fun x y => by
  unfold eP3
  rw [PyData.eqv, PyData.eqvAll, PyData.eqvAll, PyData.eqvAll, PyData.eqvAll, h1, h2, h3, Bool.eq_iff_iff]
  simp [Prod.ext_iff]
theorem eq_P4 [DecidableEq α] [DecidableEq β] [DecidableEq γ] [DecidableEq δ] {e1 : α → PyData} {e2 : β → PyData} {e3 : γ → PyData} {e4 : δ → PyData} (h1 : EqE e1) (h2 : EqE e2) (h3 : EqE e3) (h4 : EqE e4) : EqE (eP4 e1 e2 e3 e4) := fun x y => by
  unfold eP4
  rw [PyData.eqv, PyData.eqvAll, PyData.eqvAll, PyData.eqvAll, PyData.eqvAll, PyData.eqvAll, h1, h2, h3, h4, Bool.eq_iff_iff]
  simp [Prod.ext_iff]
/-- never None -/
def NnE (e : α → PyData) : Prop := ∀ a, noneD (e a) = false ∧ PyData.eqv (e a) .none = false ∧ PyData.eqv .none (e a) = false
theorem nn_I : NnE eI := fun _ => ⟨rfl, rfl, rfl⟩
theorem nn_B : NnE eB := fun _ => ⟨rfl, rfl, rfl⟩
theorem nn_S : NnE eS := fun _ => ⟨rfl, rfl, rfl⟩
theorem nn_T {e : α → PyData} : NnE (eT e) := fun _ => ⟨rfl, rfl, rfl⟩
theorem nn_L {e : α → PyData} : NnE (eL e) := fun _ => ⟨rfl, rfl, rfl⟩
theorem nn_P2 {e1 : α → PyData} {e2 : β → PyData} : NnE (eP2 e1 e2) := fun _ => ⟨rfl, rfl, rfl⟩
theorem nn_P3 {e1 : α → PyData} {e2 : β → PyData} {e3 : γ → PyData} : NnE (eP3 e1 e2 e3) := fun _ => ⟨rfl, rfl, rfl⟩
theorem eq_O [DecidableEq α] {e : α → PyData} (h : EqE e) (n : NnE e) : EqE (eO e) := fun x y => by
  cases x <;> cases y
  · rfl
  · simp [eO, (n _).2.2]
  · simp [eO, (n _).2.1]
  · simp only [eO]
    rw [h]
    simp
/-! ### the order -/
def lt (e : α → PyData) (x y : α) : Bool := PySem.W.dataLt (e x) (e y)
@[simp] theorem lt_I (a b : Int) : lt eI a b = decide (a < b) := PySem.W.dataLt_int _ _
end
end Ty

/-! Ty: expressions -/
namespace Ty
open PySem PySem.Spec Ev
section
variable {α β γ δ σ τ : Type} {ρ : Ev.Env} {e : α → PyData} {e1 : α → PyData} {e2 : β → PyData} {e3 : γ → PyData} {e4 : δ → PyData}
variable {d d1 d2 d3 d4 : Den} {m : M α} {m1 : M α} {m2 : M β} {m3 : M γ} {m4 : M δ}
theorem re_var {i : Nat} (a : α) (e : α → PyData) (h : ρ[i]?.join = some (e a)) : RE (dVar i ρ) e (rtn a) := fun R => by
  show SimR (Ev.ofO (ρ[i]?.join) R) _ _
  rw [h]
  exact ⟨_, rfl, rfl⟩
theorem re_int {n : Int} : RE (dC (.int n) ρ) eI (rtn n) := RR.ok rfl
theorem re_bool {b : Bool} : RE (dC (.bool b) ρ) eB (rtn b) := RR.ok rfl
theorem re_str {s : Str} : RE (dC (.str s) ρ) eS (rtn s) := RR.ok rfl
theorem re_none : RE (dC .none ρ) eU (rtn ()) := RR.ok rfl
theorem re_noneO {e : α → PyData} : RE (dC .none ρ) (eO e) (rtn (none : Option α)) := RR.ok rfl
theorem re_any {x : PyData} : RE (dC x ρ) eA (rtn x) := RR.ok rfl
/-- an operator on one thing -/
def UO (f : PyData → Option PyData) (e1 : α → PyData) (e2 : β → PyData) (g : α → M β) : Prop := ∀ a, RE (fun R => Ev.ofO (f (e1 a)) R) e2 (g a)
def BO (f : PyData → PyData → Option PyData) (e1 : α → PyData) (e2 : β → PyData) (e3 : γ → PyData) (g : α → β → M γ) : Prop := ∀ a b, RE (fun R => Ev.ofO (f (e1 a) (e2 b)) R) e3 (g a b)
theorem re_un {f : PyData → Option PyData} {g : α → M β} (h : UO f e1 e2 g) (h1 : RE (d ρ) e1 m) : RE (dUn f d ρ) e2 (bnd m g) := h1.ebind h
theorem re_bin {f : PyData → PyData → Option PyData} {g : α → β → M γ} (h : BO f e1 e2 e3 g) (h1 : RE (d1 ρ) e1 m1) (h2 : RE (d2 ρ) e2 m2) : RE (dBin f d1 d2 ρ) e3 (bnd m1 fun a => bnd m2 fun b => g a b) := h1.ebind fun a => h2.ebind fun b => h a b
/-- results that are there at once -/
theorem bo_ret {f : PyData → PyData → Option PyData} {g : α → β → γ} (h : ∀ a b, f (e1 a) (e2 b) = some (e3 (g a b))) : BO f e1 e2 e3 (fun a b => rtn (g a b)) := fun a b R => by
  show SimR (Ev.ofO (f (e1 a) (e2 b)) R) _ _
  rw [h]
  exact ⟨_, rfl, rfl⟩
theorem bo_opt {f : PyData → PyData → Option PyData} {g : α → β → Option γ} (h : ∀ a b c, g a b = some c → f (e1 a) (e2 b) = some (e3 c)) : BO f e1 e2 e3 (fun a b => opt (g a b)) := fun a b => RR.ofO (h a b)
theorem bo_grd {f : PyData → PyData → Option PyData} {p : α → β → Bool} {g : α → β → γ} (h : ∀ a b, p a b = true → f (e1 a) (e2 b) = some (e3 (g a b))) : BO f e1 e2 e3 (fun a b => grd (p a b) (rtn (g a b))) := fun a b R => by
  show SimR (Ev.ofO (f (e1 a) (e2 b)) R) (grd (p a b) (rtn (g a b)) R) _
  rw [grd_def]
  by_cases hp : p a b = true
  · rw [if_pos hp, h a b hp]; exact ⟨_, rfl, rfl⟩
  · rw [if_neg hp]; exact True.intro
theorem bo_add : BO addD eI eI eI (fun a b => rtn (a + b)) := bo_ret fun _ _ => rfl
theorem bo_sub : BO subD eI eI eI (fun a b => rtn (a - b)) := bo_ret fun _ _ => rfl
def mulT (a b : Int) : M Int := grd (near a || near b) (rtn (a * b))
theorem bo_mul : BO mulD eI eI eI mulT := bo_grd fun a b h => by show (if _ then _ else _) = _; rw [if_pos h]; rfl
theorem mul_l {a b : Int} (h : near a = true) : mulT a b = rtn (a * b) := by simp [mulT, h]
theorem mul_r {a b : Int} (h : near b = true) : mulT a b = rtn (a * b) := by simp [mulT, h]
def fdivT (a b : Int) : M Int := grd (decide (0 < b ∧ b < 1073741824)) (rtn (a / b))
theorem bo_fdiv : BO fdivD eI eI eI fdivT := bo_grd fun a b h => by show (if _ then _ else _) = _; rw [if_pos (of_decide_eq_true h)]; rfl
theorem fdiv_ok {a b : Int} (h : 0 < b) (h2 : b < 1073741824) : fdivT a b = rtn (a / b) := by simp [fdivT, h, h2]
def modT (a b : Int) : M Int := grd (decide (0 < b)) (rtn (a % b))
theorem bo_mod : BO modD eI eI eI modT := bo_grd fun a b h => by show (if _ then _ else _) = _; rw [if_pos (of_decide_eq_true h)]; rfl
theorem mod_ok {a b : Int} (h : 0 < b) : modT a b = rtn (a % b) := by simp [modT, h]
def powT (a b : Int) : M Int := grd (decide (0 ≤ b ∧ b ≤ 1000000 ∧ a.natAbs < 2 ^ 64)) (rtn (a ^ b.toNat))
theorem bo_pow : BO powD eI eI eI powT := bo_grd fun a b h => by show (if _ then _ else _) = _; rw [if_pos (of_decide_eq_true h)]; rfl
def shlT (a b : Int) : M Int := grd (decide (0 ≤ b ∧ b ≤ 1000000 ∧ a.natAbs < 2 ^ 64)) (rtn (a * 2 ^ b.toNat))
theorem bo_shl : BO shlD eI eI eI shlT := bo_grd fun a b h => by show (if _ then _ else _) = _; rw [if_pos (of_decide_eq_true h)]; rfl
def shrT (a b : Int) : M Int := grd (decide (0 ≤ b)) (rtn (a / 2 ^ b.toNat))
theorem bo_shr : BO shrD eI eI eI shrT := bo_grd fun a b h => by show (if _ then _ else _) = _; rw [if_pos (of_decide_eq_true h)]; rfl
theorem bo_and : BO andD eI eI eI (fun a b => rtn (Builtin.bitAnd a b)) := bo_ret fun _ _ => rfl
theorem bo_or : BO orD eI eI eI (fun a b => rtn (Builtin.bitOr a b)) := bo_ret fun _ _ => rfl
theorem bo_xor : BO xorD eI eI eI (fun a b => rtn (Builtin.bitXor a b)) := bo_ret fun _ _ => rfl
def catT (xs ys : List α) : M (List α) := grd (decide (xs.length + ys.length ≤ sizeLine)) (rtn (xs ++ ys))
theorem cat_ok {xs ys : List α} (h : xs.length + ys.length ≤ 1000000) : catT xs ys = rtn (xs ++ ys) := by unfold catT; rw [decide_eq_true (small_sz h)]; exact grd_t _
theorem bo_cat : BO addD (eT e) (eT e) (eT e) catT := bo_grd fun a b h => by
  have h := of_decide_eq_true h
  show (if (a.map e).length + (b.map e).length ≤ sizeLine then _ else _) = _
  rw [if_pos (by simpa using h)]
  unfold eT
  rw [List.map_append]
def repT (xs : List α) (k : Int) : M (List α) := grd (!xs.isEmpty && decide (1 ≤ k ∧ k ≤ 1000 ∧ xs.length ≤ 1000)) (rtn (List.replicate k.toNat xs).flatten)
theorem map_flat {f : α → β} (n : Nat) (xs : List α) : ((List.replicate n xs).flatten).map f = (List.replicate n (xs.map f)).flatten := by rw [List.map_flatten, List.map_replicate]
theorem bo_rep : BO mulD (eT e) eI (eT e) repT := bo_grd fun a b h => by
  rw [Bool.and_eq_true, decide_eq_true_eq] at h
  have h1 : a ≠ [] := fun z => by rw [z] at h; simp at h
  show (if a.map e ≠ [] ∧ 1 ≤ b ∧ b ≤ 1000 ∧ (a.map e).length ≤ 1000 then _ else _) = _
  rw [if_pos ⟨fun z => h1 (List.map_eq_nil_iff.mp z), h.2.1, h.2.2.1, by rw [List.length_map]; exact h.2.2.2⟩]
  unfold eT
  rw [map_flat]
theorem bo_lt : BO (cmpD fun i j => decide (i < j)) eI eI eB (fun a b => rtn (decide (a < b))) := bo_ret fun _ _ => rfl
theorem bo_le : BO (cmpD fun i j => decide (i ≤ j)) eI eI eB (fun a b => rtn (decide (a ≤ b))) := bo_ret fun _ _ => rfl
theorem bo_gt : BO (cmpD fun i j => decide (j < i)) eI eI eB (fun a b => rtn (decide (b < a))) := bo_ret fun _ _ => rfl
theorem bo_ge : BO (cmpD fun i j => decide (j ≤ i)) eI eI eB (fun a b => rtn (decide (b ≤ a))) := bo_ret fun _ _ => rfl
theorem bo_eq [DecidableEq α] (h : EqE e) (s : ShE 9 e) : BO eqD e e eB (fun a b => rtn (decide (a = b))) := bo_ret fun a b => by unfold eqD; rw [s a, s b, h]; rfl
theorem bo_ne [DecidableEq α] (h : EqE e) (s : ShE 9 e) : BO neD e e eB (fun a b => rtn (!decide (a = b))) := bo_ret fun a b => by unfold neD; rw [s a, s b, h]; rfl
/-- alike, where the shape must be looked at -/
def eqG [DecidableEq α] (e : α → PyData) (x y : α) : M Bool := grd (shp 9 (e x) && shp 9 (e y)) (rtn (decide (x = y)))
def neG [DecidableEq α] (e : α → PyData) (x y : α) : M Bool := grd (shp 9 (e x) && shp 9 (e y)) (rtn (!decide (x = y)))
theorem eqG_ok [DecidableEq α] {x y : α} (h : (shp 9 (e x) && shp 9 (e y)) = true) : eqG e x y = rtn (decide (x = y)) := by unfold eqG; rw [h]; exact grd_t _
theorem neG_ok [DecidableEq α] {x y : α} (h : (shp 9 (e x) && shp 9 (e y)) = true) : neG e x y = rtn (!decide (x = y)) := by unfold neG; rw [h]; exact grd_t _
theorem bo_eqG [DecidableEq α] (h : EqE e) : BO eqD e e eB (fun a b => eqG e a b) := fun a b R => by
  show SimR (Ev.ofO (eqD (e a) (e b)) R) (eqG e a b R) _
  unfold eqD eqG grd
  by_cases hs : (shp 9 (e a) && shp 9 (e b)) = true
  · rw [if_pos hs, if_pos hs, h]; exact ⟨_, rfl, rfl⟩
  · rw [if_neg hs, if_neg hs]; exact True.intro
theorem bo_neG [DecidableEq α] (h : EqE e) : BO neD e e eB (fun a b => neG e a b) := fun a b R => by
  show SimR (Ev.ofO (neD (e a) (e b)) R) (neG e a b R) _
  unfold neD neG grd
  by_cases hs : (shp 9 (e a) && shp 9 (e b)) = true
  · rw [if_pos hs, if_pos hs, h]; exact ⟨_, rfl, rfl⟩
  · rw [if_neg hs, if_neg hs]; exact True.intro
theorem bo_ltT {t : Ev.Ty} (h : HtE t e) (s : ShE 9 e) : BO (ltTy t) e e eB (fun a b => rtn (lt e a b)) := bo_ret fun a b => by unfold ltTy; rw [h a, h b, s a, s b]; rfl
theorem bo_leT {t : Ev.Ty} (h : HtE t e) (s : ShE 9 e) : BO (leTy t) e e eB (fun a b => rtn (!lt e b a)) := bo_ret fun a b => by unfold leTy; rw [h a, h b, s a, s b]; rfl
theorem bo_gtT {t : Ev.Ty} (h : HtE t e) (s : ShE 9 e) : BO (fun x y => ltTy t y x) e e eB (fun a b => rtn (lt e b a)) := bo_ret fun a b => by show ltTy t (e b) (e a) = _; unfold ltTy; rw [h a, h b, s a, s b]; rfl
theorem bo_isN (n : NnE e) : BO isND (eO e) eU eB (fun a _ => rtn a.isNone) := bo_ret fun a b => by
  cases a with
  | none => rfl
  | some a => show isND (e a) .none = _; rw [isND_n, (n a).1]; rfl
theorem bo_notN (n : NnE e) : BO notND (eO e) eU eB (fun a _ => rtn a.isSome) := bo_ret fun a b => by
  cases a with
  | none => rfl
  | some a => show notND (e a) .none = _; rw [notND_n, (n a).1]; rfl
theorem bo_isB : BO isBD eB eB eB (fun a b => rtn (decide (a = b))) := bo_ret fun _ _ => rfl
theorem bo_notB : BO notBD eB eB eB (fun a b => rtn (!decide (a = b))) := bo_ret fun _ _ => rfl
theorem any_eq [DecidableEq α] (a : α) (xs : List α) : (xs.any fun x => decide (x = a)) = decide (a ∈ xs) := by
  rw [Bool.eq_iff_iff, List.any_eq_true, decide_eq_true_eq]
  constructor
  · rintro ⟨x, hx, h⟩
    rw [← of_decide_eq_true h]; exact hx
  · intro h
    exact ⟨a, h, decide_eq_true rfl⟩
theorem in_list [DecidableEq α] (h : EqE e) (s : ShE 8 e) (s9 : ShE 9 e) (a : α) (xs : List α) : inSq (e a) (eL e xs) = some (decide (a ∈ xs)) := by
  show (if shp 9 (e a) && shp 9 (eL e xs) then some ((xs.map e).any fun z => PyData.eqv z (e a)) else none) = _
  rw [s9 a, sh_L (e := e) s xs, ← any_eq, List.any_map]
  simp only [Function.comp_def, h _ _]
  rfl
def inT [DecidableEq α] (a : α) (xs : List α) : Bool := decide (a ∈ xs)
theorem inT_iff [DecidableEq α] {a : α} {xs : List α} : inT a xs = true ↔ a ∈ xs := decide_eq_true_iff
theorem bo_in [DecidableEq α] (h : EqE e) (s : ShE 8 e) (s9 : ShE 9 e) : BO (fun x y => (inSq x y).map PyData.bool) e (eL e) eB (fun a xs => rtn (inT a xs)) := bo_ret fun a xs => by rw [in_list h s s9]; rfl
theorem bo_notin [DecidableEq α] (h : EqE e) (s : ShE 8 e) (s9 : ShE 9 e) : BO (fun x y => (inSq x y).map fun b => PyData.bool (!b)) e (eL e) eB (fun a xs => rtn (!inT a xs)) := bo_ret fun a xs => by rw [in_list h s s9]; rfl
theorem eqF_int (a b : Int) : eqF (eI a) (eI b) = decide (a = b) := by simp [eqF, eI]; rfl
theorem in_tupI (a : Int) (xs : List Int) : inSq (eI a) (eT eI xs) = some (decide (a ∈ xs)) := by
  show (if flatD (eI a) && (xs.map eI).all flatD then some ((xs.map eI).any fun z => eqF z (eI a)) else none) = _
  rw [if_pos (by simp [eI, flatD]), ← any_eq, List.any_map]
  simp only [Function.comp_def, eqF_int]
theorem bo_inT : BO (fun x y => (inSq x y).map PyData.bool) eI (eT eI) eB (fun a xs => rtn (inT a xs)) := bo_ret fun a xs => by rw [in_tupI]; rfl
theorem bo_notinT : BO (fun x y => (inSq x y).map fun b => PyData.bool (!b)) eI (eT eI) eB (fun a xs => rtn (!inT a xs)) := bo_ret fun a xs => by rw [in_tupI]; rfl
-- subscripts
theorem atI_mapE (xs : List α) (i : Int) : L2.atI (xs.map e) i = (L2.atI xs i).map e := by
  unfold L2.atI
  rw [List.length_map]
  cases L2.ixN xs.length i with
  | none => rfl
  | some j => show (xs.map e)[j]? = (xs[j]?).map e; rw [List.getElem?_map]
def atT (xs : List α) (i : Int) : M α := opt (L2.atI xs i)
theorem bo_idxL : BO idxD (eL e) eI e atT := bo_opt fun xs i c h => by show L2.atI (xs.map e) i = _; rw [atI_mapE, h]; rfl
theorem bo_idxT : BO idxD (eT e) eI e atT := bo_opt fun xs i c h => by show L2.atI (xs.map e) i = _; rw [atI_mapE, h]; rfl
theorem at_ok {xs : List α} {i : Int} {a : α} (h : 0 ≤ i) (h2 : xs[i.toNat]? = some a) : atT xs i = rtn a := by
  have hl : i.toNat < xs.length := (List.getElem?_eq_some_iff.mp h2).1
  unfold atT L2.atI L2.ixN
  rw [if_pos h, if_pos (by omega)]
  show opt (xs[i.toNat]?) = _
  rw [h2]
  rfl
theorem at_nat {xs : List α} {n : Nat} (h : n < xs.length) : atT xs (n : Int) = rtn xs[n] := at_ok (by omega) (by rw [Int.toNat_natCast]; exact List.getElem?_eq_getElem h)
theorem at_neg {xs : List α} {a : α} {n : Nat} (h : 0 < n) (h1 : n ≤ xs.length) (h2 : xs[xs.length - n]? = some a) : atT xs (-(n : Int)) = rtn a := by
  unfold atT L2.atI L2.ixN
  rw [if_neg (by omega), if_pos (by omega)]
  have e : (-(n : Int) + (xs.length : Int)).toNat = xs.length - n := by omega
  show opt (xs[(-(n : Int) + (xs.length : Int)).toNat]?) = _
  rw [e, h2]
  rfl
theorem re_p1_0 {m : M α} (h : RE (d ρ) (eP1 e) m) : RE (dBin idxD d (dC (.int 0)) ρ) e m := (h.ebind (f := rtn) fun a => (RR.ok rfl : RE (fun R => .ok (e a) R) e (rtn a))).conv (bnd_rtn' m)
theorem re_p2_0 {m : M (α × β)} (h : RE (d ρ) (eP2 e1 e2) m) : RE (dBin idxD d (dC (.int 0)) ρ) e1 (bnd m fun a => rtn a.1) := h.ebind fun a => (RR.ok rfl : RE (fun R => .ok (e1 a.1) R) e1 (rtn a.1))
theorem re_p2_1 {m : M (α × β)} (h : RE (d ρ) (eP2 e1 e2) m) : RE (dBin idxD d (dC (.int 1)) ρ) e2 (bnd m fun a => rtn a.2) := h.ebind fun a => (RR.ok rfl : RE (fun R => .ok (e2 a.2) R) e2 (rtn a.2))
theorem re_p3_0 {m : M (α × β × γ)} (h : RE (d ρ) (eP3 e1 e2 e3) m) : RE (dBin idxD d (dC (.int 0)) ρ) e1 (bnd m fun a => rtn a.1) := h.ebind fun a => (RR.ok rfl : RE (fun R => .ok (e1 a.1) R) e1 (rtn a.1))
theorem re_p3_1 {m : M (α × β × γ)} (h : RE (d ρ) (eP3 e1 e2 e3) m) : RE (dBin idxD d (dC (.int 1)) ρ) e2 (bnd m fun a => rtn a.2.1) := h.ebind fun a => (RR.ok rfl : RE (fun R => .ok (e2 a.2.1) R) e2 (rtn a.2.1))
theorem re_p3_2 {m : M (α × β × γ)} (h : RE (d ρ) (eP3 e1 e2 e3) m) : RE (dBin idxD d (dC (.int 2)) ρ) e3 (bnd m fun a => rtn a.2.2) := h.ebind fun a => (RR.ok rfl : RE (fun R => .ok (e3 a.2.2) R) e3 (rtn a.2.2))
-- one
theorem uo_neg : UO negD eI eI (fun a => rtn (-a)) := fun a => RR.ok rfl
theorem re_not {m : M Bool} (h : RE (d ρ) eB m) : RE (dNot d ρ) eB (bnd m fun a => rtn (!a)) := h.ebind fun a => (RR.ok rfl : RE (fun R => .ok (.bool !a) R) eB (rtn (!a)))
theorem re_and {n m : M Bool} (h : RE (d1 ρ) eB m) (k : RE (d2 ρ) eB n) : RE (dAnd d1 d2 ρ) eB (bnd m fun b => if b then n else rtn false) := h.ebind fun b => by
  cases b
  · exact RR.ok rfl
  · exact k
theorem re_or {n m : M Bool} (h : RE (d1 ρ) eB m) (k : RE (d2 ρ) eB n) : RE (dOr d1 d2 ρ) eB (bnd m fun b => if b then rtn true else n) := h.ebind fun b => by
  cases b
  · exact k
  · exact RR.ok rfl
variable {b b1 b2 : DenB} {mb nb : M Bool}
theorem rb_of (h : RE (d ρ) eB mb) : RB (dTB d ρ) mb := (h.ebind (f := rtn) fun a => (RR.ok rfl : RB (fun R => .ok a R) (rtn a))).conv (bnd_rtn' mb)
theorem rb_and (h : RB (b1 ρ) mb) (k : RB (b2 ρ) nb) : RB (bAnd b1 b2 ρ) (bnd mb fun b => if b then nb else rtn false) := RR.ebind (e := id) h fun b => by
  cases b
  · exact RR.ok rfl
  · exact k
theorem rb_or (h : RB (b1 ρ) mb) (k : RB (b2 ρ) nb) : RB (bOr b1 b2 ρ) (bnd mb fun b => if b then rtn true else nb) := RR.ebind (e := id) h fun b => by
  cases b
  · exact k
  · exact RR.ok rfl
theorem rb_not (h : RB (b ρ) mb) : RB (bNot b ρ) (bnd mb fun b => rtn (!b)) := RR.ebind (e := id) h fun b => RR.ok rfl
theorem rb_yes : RB (bYes ρ) (rtn true) := RR.ok rfl
theorem re_if {n m : M α} (h : RB (b ρ) mb) (h1 : RE (d1 ρ) e m) (h2 : RE (d2 ρ) e n) : RE (dIf b d1 d2 ρ) e (bnd mb fun c => if c then m else n) := RR.ebind (e := id) h fun c => by
  cases c
  · exact h2
  · exact h1
/-- a chain of two comparisons of ints -/
theorem re_chain {f g : PyData → PyData → Option PyData} {gf : α → β → M Bool} {gg : β → γ → M Bool} (hf : BO f e1 e2 eB gf) (hg : BO g e2 e3 eB gg) (h1 : RE (d1 ρ) e1 m1) (h2 : RE (d2 ρ) e2 m2) (h3 : RE (d3 ρ) e3 m3) :
    RE (dChain f g d1 d2 d3 ρ) eB (bnd m1 fun x => bnd m2 fun y => bnd (gf x y) fun b => if b then bnd m3 fun z => gg y z else rtn false) := h1.ebind fun x => h2.ebind fun y => by
  have q : RB (fun R => Ev.ofO ((f (e1 x) (e2 y)).bind boolD) R) (gf x y) := fun R => by
    have q := hf x y R
    cases e : gf x y R with
    | ok a R1 =>
      rw [e] at q
      obtain ⟨b, q1, q2⟩ := q
      subst q2
      cases ef : f (e1 x) (e2 y) with
      | none => rw [ef] at q1; cases q1
      | some v =>
        rw [ef] at q1
        cases q1
        exact ⟨a, rfl, rfl⟩
    | exc n R1 =>
      rw [e] at q
      have q : Ev.ofO (f (e1 x) (e2 y)) R = .exc n R1 := q
      cases ef : f (e1 x) (e2 y) with
      | none => rw [ef] at q; cases q
      | some v => rw [ef] at q; cases q
    | stuck => exact True.intro
  refine RR.ebind (e := id) q fun b => ?_
  cases b
  · exact RR.ok rfl
  · exact h3.ebind fun z => hg y z
-- lists of things of one kind
variable {l : DenL} {ml : M (List α)}
theorem rl_nil {e : α → PyData} : RL (lNil ρ) e (rtn []) := RR.ok rfl
theorem rl_cons (h : RE (d ρ) e m) (k : RL (l ρ) e ml) : RL (lCons d l ρ) e (bnd m fun x => bnd ml fun xs => rtn (x :: xs)) := h.ebind fun x => k.ebind fun xs => RR.ok rfl
def szT (xs : List α) : M (List α) := grd (decide (xs.length ≤ sizeLine)) (rtn xs)
theorem sz_ok {xs : List α} (h : xs.length ≤ 1000000) : szT xs = rtn xs := by unfold szT; rw [decide_eq_true (small_sz h)]; exact grd_t _
@[simp] theorem sz_nil : szT ([] : List α) = rtn [] := sz_ok (by simp)
@[simp] theorem sz_one {x : α} : szT [x] = rtn [x] := sz_ok (by simp)
@[simp] theorem sz_two {x y : α} : szT [x, y] = rtn [x, y] := sz_ok (by simp)
@[simp] theorem sz_three {x y z : α} : szT [x, y, z] = rtn [x, y, z] := sz_ok (by simp)
theorem sz_l {xs : List α} {e : α → PyData} : RR (fun R => if (xs.map e).length ≤ sizeLine then Res.ok (xs.map e) R else Res.stuck) (szT xs) fun a b => b = a.map e := by
  unfold szT grd
  by_cases h : xs.length ≤ sizeLine
  · rw [if_pos (decide_eq_true h)]
    simp only [List.length_map, h, if_true]
    exact RR.ok rfl
  · rw [if_neg (by simpa using h)]
    exact RR.stk
theorem rl_lst (h : RL (l ρ) e ml) : RL (nLst l ρ) e (bnd ml szT) := h.ebind fun xs => sz_l
theorem re_lst (h : RL (l ρ) e ml) : RE (dLst l ρ) (eL e) ml := (h.ebind (f := rtn) fun xs => (RR.ok rfl : RE (fun R => .ok (.list (xs.map e)) R) (eL e) (rtn xs))).conv (bnd_rtn' ml)
theorem re_tupT (h : RL (l ρ) e ml) : RE (dTup l ρ) (eT e) (bnd ml szT) := h.ebind fun xs => by
  unfold szT grd
  by_cases h : xs.length ≤ sizeLine
  · rw [if_pos (decide_eq_true h)]
    simp only [List.length_map, h, if_true]
    exact RR.ok rfl
  · rw [if_neg (by simpa using h)]
    exact RR.stk
theorem dTup1 {d1 : Den} : dTup (lCons d1 lNil) ρ = fun R => (d1 ρ R).bind fun x R1 => .ok (.tuple [x]) R1 := by
  funext R
  simp
theorem re_tup1 (h1 : RE (d1 ρ) e1 m1) : RE (dTup (lCons d1 lNil) ρ) (eP1 e1) m1 := by
  rw [dTup1]
  exact (h1.ebind (f := rtn) fun a => (RR.ok rfl : RE (fun R => .ok (.tuple [e1 a]) R) (eP1 e1) (rtn a))).conv (bnd_rtn' m1)
theorem tup_go {x : List PyData} (h : x.length ≤ 16) {R : Ev.Row} : (if x.length ≤ sizeLine then Res.ok (PyData.tuple x) R else Res.stuck) = Res.ok (.tuple x) R := if_pos (small_sz (by omega))
theorem dTup2 {d1 d2 : Den} : dTup (lCons d1 (lCons d2 lNil)) ρ = fun R => (d1 ρ R).bind fun x R1 => (d2 ρ R1).bind fun y R2 => .ok (.tuple [x, y]) R2 := by
  funext R
  simp
theorem dTup3 {d1 d2 d3 : Den} : dTup (lCons d1 (lCons d2 (lCons d3 lNil))) ρ = fun R => (d1 ρ R).bind fun x R1 => (d2 ρ R1).bind fun y R2 => (d3 ρ R2).bind fun z R3 => .ok (.tuple [x, y, z]) R3 := by
  funext R
  simp
theorem dTup4 {d1 d2 d3 d4 : Den} : dTup (lCons d1 (lCons d2 (lCons d3 (lCons d4 lNil)))) ρ = fun R => (d1 ρ R).bind fun x R1 => (d2 ρ R1).bind fun y R2 => (d3 ρ R2).bind fun z R3 => (d4 ρ R3).bind fun u R4 => .ok (.tuple [x, y, z, u]) R4 := by
  funext R
  simp
theorem re_tup2 (h1 : RE (d1 ρ) e1 m1) (h2 : RE (d2 ρ) e2 m2) : RE (dTup (lCons d1 (lCons d2 lNil)) ρ) (eP2 e1 e2) (bnd m1 fun a => bnd m2 fun b => rtn (a, b)) := by
  rw [dTup2]
  exact h1.ebind fun a => h2.ebind fun b => RR.ok rfl
theorem re_tup3 (h1 : RE (d1 ρ) e1 m1) (h2 : RE (d2 ρ) e2 m2) (h3 : RE (d3 ρ) e3 m3) : RE (dTup (lCons d1 (lCons d2 (lCons d3 lNil))) ρ) (eP3 e1 e2 e3) (bnd m1 fun a => bnd m2 fun b => bnd m3 fun c => rtn (a, b, c)) := by
  rw [dTup3]
  exact h1.ebind fun a => h2.ebind fun b => h3.ebind fun c => RR.ok rfl
theorem re_tup4 (h1 : RE (d1 ρ) e1 m1) (h2 : RE (d2 ρ) e2 m2) (h3 : RE (d3 ρ) e3 m3) (h4 : RE (d4 ρ) e4 m4) : RE (dTup (lCons d1 (lCons d2 (lCons d3 (lCons d4 lNil)))) ρ) (eP4 e1 e2 e3 e4) (bnd m1 fun a => bnd m2 fun b => bnd m3 fun c => bnd m4 fun u => rtn (a, b, c, u)) := by
  rw [dTup4]
  exact h1.ebind fun a => h2.ebind fun b => h3.ebind fun c => h4.ebind fun u => RR.ok rfl
-- what stands for a thing in two ways
theorem re_as {e : α → PyData} {e' : β → PyData} {m : M α} {X : Ev.Row → Res PyData} (f : α → β) (hf : ∀ a, e a = e' (f a)) (h : RE X e m) : RE X e' (bnd m fun a => rtn (f a)) := fun R => by
  have q := h R
  show SimR (X R) ((m R).bind _) _
  cases e2 : m R with
  | ok a R1 =>
    rw [e2] at q
    obtain ⟨b, q1, q2⟩ := q
    exact ⟨b, q1, by rw [q2, hf]⟩
  | exc n R1 => rw [e2] at q; exact q
  | stuck => exact True.intro
theorem re_some {m : M α} {X : Ev.Row → Res PyData} (h : RE X e m) : RE X (eO e) (bnd m fun a => rtn (some a)) := re_as some (fun _ => rfl) h
theorem re_toA {m : M α} {X : Ev.Row → Res PyData} (h : RE X e m) : RE X eA (bnd m fun a => rtn (e a)) := re_as e (fun _ => rfl) h
theorem re_noneA {m : M Unit} {X : Ev.Row → Res PyData} (h : RE X eU m) : RE X (eO e) (bnd m fun _ => rtn none) := re_as (fun _ => none) (fun _ => rfl) h
-- calls
variable {F : List PyData → Ev.Row → Res PyData} {er : τ → PyData}
theorem rc_0 {t : M τ} (h : RE (F []) er t) : RE (dCallF F lNil ρ) er t := h
theorem dCall1 {d1 : Den} : dCallF F (lCons d1 lNil) ρ = fun R => (d1 ρ R).bind fun x R1 => F [x] R1 := by funext R; simp
theorem dCall2 {d1 d2 : Den} : dCallF F (lCons d1 (lCons d2 lNil)) ρ = fun R => (d1 ρ R).bind fun x R1 => (d2 ρ R1).bind fun y R2 => F [x, y] R2 := by funext R; simp
theorem dCall3 {d1 d2 d3 : Den} : dCallF F (lCons d1 (lCons d2 (lCons d3 lNil))) ρ = fun R => (d1 ρ R).bind fun x R1 => (d2 ρ R1).bind fun y R2 => (d3 ρ R2).bind fun z R3 => F [x, y, z] R3 := by funext R; simp
theorem dCall4 {d1 d2 d3 d4 : Den} : dCallF F (lCons d1 (lCons d2 (lCons d3 (lCons d4 lNil)))) ρ = fun R => (d1 ρ R).bind fun x R1 => (d2 ρ R1).bind fun y R2 => (d3 ρ R2).bind fun z R3 => (d4 ρ R3).bind fun u R4 => F [x, y, z, u] R4 := by funext R; simp
theorem rc_1 {t : α → M τ} (h1 : RE (d1 ρ) e1 m1) (h : ∀ a, RE (F [e1 a]) er (t a)) : RE (dCallF F (lCons d1 lNil) ρ) er (bnd m1 t) := by rw [dCall1]; exact h1.ebind h
theorem rc_2 {t : α → β → M τ} (h1 : RE (d1 ρ) e1 m1) (h2 : RE (d2 ρ) e2 m2) (h : ∀ a b, RE (F [e1 a, e2 b]) er (t a b)) : RE (dCallF F (lCons d1 (lCons d2 lNil)) ρ) er (bnd m1 fun a => bnd m2 fun b => t a b) := by rw [dCall2]; exact h1.ebind fun a => h2.ebind fun b => h a b
theorem rc_3 {t : α → β → γ → M τ} (h1 : RE (d1 ρ) e1 m1) (h2 : RE (d2 ρ) e2 m2) (h3 : RE (d3 ρ) e3 m3) (h : ∀ a b c, RE (F [e1 a, e2 b, e3 c]) er (t a b c)) : RE (dCallF F (lCons d1 (lCons d2 (lCons d3 lNil))) ρ) er (bnd m1 fun a => bnd m2 fun b => bnd m3 fun c => t a b c) := by rw [dCall3]; exact h1.ebind fun a => h2.ebind fun b => h3.ebind fun c => h a b c
theorem rc_4 {t : α → β → γ → δ → M τ} (h1 : RE (d1 ρ) e1 m1) (h2 : RE (d2 ρ) e2 m2) (h3 : RE (d3 ρ) e3 m3) (h4 : RE (d4 ρ) e4 m4) (h : ∀ a b c u, RE (F [e1 a, e2 b, e3 c, e4 u]) er (t a b c u)) : RE (dCallF F (lCons d1 (lCons d2 (lCons d3 (lCons d4 lNil)))) ρ) er (bnd m1 fun a => bnd m2 fun b => bnd m3 fun c => bnd m4 fun u => t a b c u) := by rw [dCall4]; exact h1.ebind fun a => h2.ebind fun b => h3.ebind fun c => h4.ebind fun u => h a b c u
theorem app_nil {k : DenL} : lApp lNil k = k := by
  funext ρ R
  simp only [lApp, lNil, bind_ok, List.nil_append]
  cases k ρ R <;> rfl
theorem app_cons {d : Den} {l k : DenL} : lApp (lCons d l) k = lCons d (lApp l k) := by
  funext ρ R
  simp only [lApp, lCons, bind_bind, bind_ok, List.cons_append]
theorem re_kw {l l' : DenL} {m : M τ} (h : RE (dCallF F l' ρ) er m) (e : l = l') : RE (dCallF F l ρ) er m := e ▸ h
/-- a call as it is -/
def rawM (F : List PyData → Ev.Row → Res PyData) (xs : List PyData) : M PyData := F xs
theorem re_raw {xs : List PyData} : RE (F xs) eA (rawM F xs) := fun R => by
  show SimR (F xs R) (F xs R) _
  cases F xs R with
  | ok a R1 => exact ⟨a, rfl, rfl⟩
  | exc n R1 => exact (rfl : _ = _)
  | stuck => exact True.intro
/-- a call as it is, its result of a kind -/
def asB (m : M PyData) : M Bool := bnd m fun x => match x with | .bool b => rtn b | _ => stk
theorem re_asB {X : Ev.Row → Res PyData} {m : M PyData} (h : RE X eA m) : RE X eB (asB m) := fun R => by
  have q := h R
  show SimR (X R) ((m R).bind _) _
  cases e : m R with
  | ok a R1 =>
    rw [e] at q
    obtain ⟨b, q1, q2⟩ := q
    have q2 : b = a := q2
    subst q2
    cases b with
    | bool b => exact ⟨_, q1, rfl⟩
    | _ => exact True.intro
  | exc n R1 => rw [e] at q; exact q
  | stuck => exact True.intro
def refT (m : M α) : M Str := fun R => match m R with
  | .ok _ R1 => .ok "" R1
  | .exc nm R1 => .ok nm R1
  | .stuck => .stuck
theorem re_ref (h : RE (d ρ) e m) : RE (dRefused d ρ) eS (refT m) := fun R => by
  have q := h R
  show SimR (dRefused d ρ R) (refT m R) _
  unfold dRefused refT
  cases e : m R with
  | ok a R1 =>
    rw [e] at q
    obtain ⟨b, q1, q2⟩ := q
    rw [q1]
    exact ⟨_, rfl, rfl⟩
  | exc n R1 =>
    rw [e] at q
    have q : d ρ R = _ := q
    rw [q]
    exact ⟨_, rfl, rfl⟩
  | stuck => exact True.intro
-- built-ins
def LO (f : List PyData → Option PyData) (xs : List PyData) (e : α → PyData) (m : M α) : Prop := RE (fun R => Ev.ofO (f xs) R) e m
theorem dBlt1 {f : List PyData → Option PyData} {d1 : Den} : dBlt f (lCons d1 lNil) ρ = fun R => (d1 ρ R).bind fun x R1 => Ev.ofO (f [x]) R1 := by funext R; simp
theorem dBlt2 {f : List PyData → Option PyData} {d1 d2 : Den} : dBlt f (lCons d1 (lCons d2 lNil)) ρ = fun R => (d1 ρ R).bind fun x R1 => (d2 ρ R1).bind fun y R2 => Ev.ofO (f [x, y]) R2 := by funext R; simp
theorem nBlt1 {f : List PyData → Option (List PyData)} {d1 : Den} : nBlt f (lCons d1 lNil) ρ = fun R => (d1 ρ R).bind fun x R1 => Ev.ofO (f [x]) R1 := by funext R; simp
theorem nBlt2 {f : List PyData → Option (List PyData)} {d1 d2 : Den} : nBlt f (lCons d1 (lCons d2 lNil)) ρ = fun R => (d1 ρ R).bind fun x R1 => (d2 ρ R1).bind fun y R2 => Ev.ofO (f [x, y]) R2 := by funext R; simp
theorem re_blt1 {f : List PyData → Option PyData} {g : α → M τ} (h1 : RE (d1 ρ) e1 m1) (h : ∀ a, RE (fun R => Ev.ofO (f [e1 a]) R) er (g a)) : RE (dBlt f (lCons d1 lNil) ρ) er (bnd m1 g) := by rw [dBlt1]; exact h1.ebind h
theorem re_blt2 {f : List PyData → Option PyData} {g : α → β → M τ} (h1 : RE (d1 ρ) e1 m1) (h2 : RE (d2 ρ) e2 m2) (h : ∀ a b, RE (fun R => Ev.ofO (f [e1 a, e2 b]) R) er (g a b)) : RE (dBlt f (lCons d1 (lCons d2 lNil)) ρ) er (bnd m1 fun a => bnd m2 fun b => g a b) := by rw [dBlt2]; exact h1.ebind fun a => h2.ebind fun b => h a b
theorem rl_blt1 {f : List PyData → Option (List PyData)} {g : α → M (List τ)} (h1 : RE (d1 ρ) e1 m1) (h : ∀ a, RL (fun R => Ev.ofO (f [e1 a]) R) er (g a)) : RL (nBlt f (lCons d1 lNil) ρ) er (bnd m1 g) := by rw [nBlt1]; exact h1.ebind h
theorem rl_blt2 {f : List PyData → Option (List PyData)} {g : α → β → M (List τ)} (h1 : RE (d1 ρ) e1 m1) (h2 : RE (d2 ρ) e2 m2) (h : ∀ a b, RL (fun R => Ev.ofO (f [e1 a, e2 b]) R) er (g a b)) : RL (nBlt f (lCons d1 (lCons d2 lNil)) ρ) er (bnd m1 fun a => bnd m2 fun b => g a b) := by rw [nBlt2]; exact h1.ebind fun a => h2.ebind fun b => h a b
theorem u_ret {f : List PyData → Option PyData} {a : α} {c : τ} (h : f [e1 a] = some (er c)) : RE (fun R => Ev.ofO (f [e1 a]) R) er (rtn c) := by rw [h]; exact RR.ok rfl
theorem u_lenL (xs : List α) : RE (fun R => Ev.ofO (lenD [eL e xs]) R) eI (rtn (xs.length : Int)) := u_ret (by simp [eL, eI])
theorem u_lenT (xs : List α) : RE (fun R => Ev.ofO (lenD [eT e xs]) R) eI (rtn (xs.length : Int)) := u_ret (by simp [eT, eI])
theorem u_lenA (x : PyData) : RE (fun R => Ev.ofO (lenD [eA x]) R) eA (opt (lenD [x])) := RR.ofO fun a h => h
theorem u_int (a : Int) : RE (fun R => Ev.ofO (intD [eI a]) R) eI (rtn a) := u_ret rfl
theorem u_abs (a : Int) : RE (fun R => Ev.ofO (absD [eI a]) R) eI (rtn (if a < 0 then -a else a)) := u_ret (by rfl)
theorem u_max2 (a b : Int) : RE (fun R => Ev.ofO (max2D [eI a, eI b]) R) eI (rtn (max a b)) := by
  have : max2D [eI a, eI b] = some (eI (max a b)) := by simp [eI]; rw [Int.max_def]; split <;> split <;> omega
  rw [this]; exact RR.ok rfl
theorem u_min2 (a b : Int) : RE (fun R => Ev.ofO (min2D [eI a, eI b]) R) eI (rtn (min a b)) := by
  have : min2D [eI a, eI b] = some (eI (min a b)) := by simp [eI]; rw [Int.min_def]; split <;> split <;> omega
  rw [this]; exact RR.ok rfl
theorem map_int (xs : List Int) : (xs.map eI).all isInt = true ∧ (xs.map eI).map intOf = xs := by
  refine ⟨by simp [eI], ?_⟩
  rw [List.map_map]
  exact List.map_id'' (fun _ => rfl) xs
theorem map_bool (xs : List Bool) : (xs.map eB).all isBool = true ∧ (xs.map eB).map boolOf = xs := by
  refine ⟨by simp [eB], ?_⟩
  rw [List.map_map]
  exact List.map_id'' (fun _ => rfl) xs
theorem u_sumL (xs : List Int) : RE (fun R => Ev.ofO (sumD [eL eI xs]) R) eI (rtn xs.sum) := u_ret (by
  show (if (xs.map eI).all isInt then some (PyData.int ((xs.map eI).map intOf).sum) else none) = _
  rw [if_pos (map_int xs).1, (map_int xs).2]; rfl)
theorem u_sumT (xs : List Int) : RE (fun R => Ev.ofO (sumD [eT eI xs]) R) eI (rtn xs.sum) := u_ret (by
  show (if (xs.map eI).all isInt then some (PyData.int ((xs.map eI).map intOf).sum) else none) = _
  rw [if_pos (map_int xs).1, (map_int xs).2]; rfl)
theorem u_all (xs : List Bool) : RE (fun R => Ev.ofO (allD [eL eB xs]) R) eB (rtn (xs.all id)) := u_ret (by
  show (if (xs.map eB).all isBool then some (PyData.bool ((xs.map eB).all boolOf)) else none) = _
  rw [if_pos (map_bool xs).1, List.all_map]; rfl)
theorem u_any (xs : List Bool) : RE (fun R => Ev.ofO (anyD [eL eB xs]) R) eB (rtn (xs.any id)) := u_ret (by
  show (if (xs.map eB).all isBool then some (PyData.bool ((xs.map eB).any boolOf)) else none) = _
  rw [if_pos (map_bool xs).1, List.any_map]; rfl)
theorem u_tupL (xs : List α) : RE (fun R => Ev.ofO (tupleD [eL e xs]) R) (eT e) (rtn xs) := u_ret rfl
theorem u_tupT (xs : List α) : RE (fun R => Ev.ofO (tupleD [eT e xs]) R) (eT e) (rtn xs) := u_ret rfl
theorem ul_ret {f : List PyData → Option (List PyData)} {a : α} {c : List τ} (h : f [e1 a] = some (c.map er)) : RL (fun R => Ev.ofO (f [e1 a]) R) er (rtn c) := by rw [h]; exact RR.ok rfl
theorem ul_listL (xs : List α) : RL (fun R => Ev.ofO (listD [eL e xs]) R) e (rtn xs) := ul_ret rfl
theorem ul_listT (xs : List α) : RL (fun R => Ev.ofO (listD [eT e xs]) R) e (rtn xs) := ul_ret rfl
def rngI (lo : Int) (n : Nat) : List Int := (List.range n).map fun k : Nat => lo + (k : Int)
theorem rngI_map (lo : Int) (n : Nat) : rangeL lo n = (rngI lo n).map eI := by unfold rangeL rngI; rw [List.map_map]; rfl
def rngN1 (j : Int) : M (List Int) := grd (decide (-1000000 ≤ j ∧ j ≤ 1000000)) (rtn (rngI 0 j.toNat))
def rngN2 (i j : Int) : M (List Int) := grd (decide ((-1000000 ≤ i ∧ i ≤ 1000000) ∧ (-1000000 ≤ j ∧ j ≤ 1000000))) (rtn (rngI i (j - i).toNat))
theorem ul_rng1 (j : Int) : RL (fun R => Ev.ofO (rngN [eI j]) R) eI (rngN1 j) := by
  unfold rngN1 grd
  split
  · rename_i h
    have : rngN [eI j] = some ((rngI 0 j.toNat).map eI) := by rw [← rngI_map]; exact if_pos (of_decide_eq_true h)
    rw [this]; exact RR.ok rfl
  · exact RR.stk
theorem ul_rng2 (i j : Int) : RL (fun R => Ev.ofO (rngN [eI i, eI j]) R) eI (rngN2 i j) := by
  unfold rngN2 grd
  split
  · rename_i h
    have : rngN [eI i, eI j] = some ((rngI i (j - i).toNat).map eI) := by rw [← rngI_map]; exact if_pos (of_decide_eq_true h)
    rw [this]; exact RR.ok rfl
  · exact RR.stk
end
end Ty

/-! Ty: least and greatest, sorted, slices, comprehensions, walks, statements -/
namespace Ty
open PySem PySem.Spec Ev
section
variable {α β γ δ σ τ : Type} {ρ : Ev.Env} {e : α → PyData} {e1 : α → PyData} {e2 : β → PyData} {e3 : γ → PyData}
variable {d d1 d2 d3 d4 : Den} {m : M α} {m1 : M α} {m2 : M β} {m3 : M γ}
/-! ### least, greatest -/
def minE (e : α → PyData) : List α → M α
  | [] => stk
  | x :: xs => rtn (xs.foldl (fun a y => if lt e y a then y else a) x)
def maxE (e : α → PyData) : List α → M α
  | [] => stk
  | x :: xs => rtn (xs.foldl (fun a y => if lt e a y then y else a) x)
theorem minD_map (x : α) (xs : List α) : PySem.W.minD (e x) (xs.map e) = e (xs.foldl (fun a y => if lt e y a then y else a) x) := by
  unfold PySem.W.minD
  induction xs generalizing x with
  | nil => rfl
  | cons y xs ih =>
    rw [List.map_cons, List.foldl_cons, List.foldl_cons, ← ih]
    congr 1
    show (if PySem.W.dataLt (e y) (e x) = true then e y else e x) = _
    unfold lt
    split <;> rfl
theorem maxD_map (x : α) (xs : List α) : PySem.W.maxD (e x) (xs.map e) = e (xs.foldl (fun a y => if lt e a y then y else a) x) := by
  unfold PySem.W.maxD
  induction xs generalizing x with
  | nil => rfl
  | cons y xs ih =>
    rw [List.map_cons, List.foldl_cons, List.foldl_cons, ← ih]
    congr 1
    show (if PySem.W.dataLt (e x) (e y) = true then e y else e x) = _
    unfold lt
    split <;> rfl
theorem all_he {p : PyData → Bool} (h : ∀ a, p (e a) = true) (xs : List α) : (xs.map e).all p = true := by
  rw [List.all_map, List.all_eq_true]
  exact fun a _ => h a
theorem u_minL {t : Ev.Ty} (h : HtE t e) (s : ShE 8 e) (xs : List α) : RE (fun R => Ev.ofO (minTy t [eL e xs]) R) e (minE e xs) := by
  cases xs with
  | nil => exact RR.stk
  | cons x xs =>
    have : minTy t [eL e (x :: xs)] = some (e (xs.foldl (fun a y => if lt e y a then y else a) x)) := by
      show (if ((x :: xs).map e).all (hasTy t) && ((x :: xs).map e).all (shp 8) then some (PySem.W.minD (e x) (xs.map e)) else none) = _
      rw [all_he h, all_he s, minD_map]; rfl
    rw [this]; exact RR.ok rfl
theorem u_minT {t : Ev.Ty} (h : HtE t e) (s : ShE 8 e) (xs : List α) : RE (fun R => Ev.ofO (minTy t [eT e xs]) R) e (minE e xs) := by
  cases xs with
  | nil => exact RR.stk
  | cons x xs =>
    have : minTy t [eT e (x :: xs)] = some (e (xs.foldl (fun a y => if lt e y a then y else a) x)) := by
      show (if ((x :: xs).map e).all (hasTy t) && ((x :: xs).map e).all (shp 8) then some (PySem.W.minD (e x) (xs.map e)) else none) = _
      rw [all_he h, all_he s, minD_map]; rfl
    rw [this]; exact RR.ok rfl
theorem u_maxL {t : Ev.Ty} (h : HtE t e) (s : ShE 8 e) (xs : List α) : RE (fun R => Ev.ofO (maxTy t [eL e xs]) R) e (maxE e xs) := by
  cases xs with
  | nil => exact RR.stk
  | cons x xs =>
    have : maxTy t [eL e (x :: xs)] = some (e (xs.foldl (fun a y => if lt e a y then y else a) x)) := by
      show (if ((x :: xs).map e).all (hasTy t) && ((x :: xs).map e).all (shp 8) then some (PySem.W.maxD (e x) (xs.map e)) else none) = _
      rw [all_he h, all_he s, maxD_map]; rfl
    rw [this]; exact RR.ok rfl
theorem u_maxT {t : Ev.Ty} (h : HtE t e) (s : ShE 8 e) (xs : List α) : RE (fun R => Ev.ofO (maxTy t [eT e xs]) R) e (maxE e xs) := by
  cases xs with
  | nil => exact RR.stk
  | cons x xs =>
    have : maxTy t [eT e (x :: xs)] = some (e (xs.foldl (fun a y => if lt e a y then y else a) x)) := by
      show (if ((x :: xs).map e).all (hasTy t) && ((x :: xs).map e).all (shp 8) then some (PySem.W.maxD (e x) (xs.map e)) else none) = _
      rw [all_he h, all_he s, maxD_map]; rfl
    rw [this]; exact RR.ok rfl
/-! ### sorted -/
def sortE (e : α → PyData) (xs : List α) : M (List α) := grd (((xs.map e).all neTup || (xs.map e).all noTup) && decide (xs.length ≤ sizeLine)) (rtn (xs.mergeSort fun a b => !lt e b a))
theorem ul_sorted {t : Ev.Ty} (h : HtE t e) (s : ShE 8 e) (xs : List α) : RL (fun R => Ev.ofO (sortTy t [eL e xs]) R) e (sortE e xs) := by
  unfold sortE grd
  split
  · rename_i hc
    rw [Bool.and_eq_true, decide_eq_true_eq] at hc
    have : sortTy t [eL e xs] = some ((xs.mergeSort fun a b => !lt e b a).map e) := by
      show (if (xs.map e).all (hasTy t) && (xs.map e).all (shp 8) && ((xs.map e).all neTup || (xs.map e).all noTup) && decide ((xs.map e).length ≤ sizeLine) then some ((xs.map e).mergeSort leD) else none) = _
      rw [all_he h, all_he s, hc.1, List.length_map, decide_eq_true hc.2, List.map_mergeSort (r := fun a b => !lt e b a) (s := leD) (hl := fun a _ b _ => rfl)]
      rfl
    rw [this]; exact RR.ok rfl
  · exact RR.stk
/-- of things that are no tuples -/
theorem sort_ok (hn : ∀ a, noTup (e a) = true) {xs : List α} (h : xs.length ≤ 1000000) : sortE e xs = rtn (xs.mergeSort fun a b => !lt e b a) := by
  unfold sortE
  rw [all_he (p := noTup) hn, decide_eq_true (small_sz h)]; simp
theorem sort_ok2 (hn : ∀ a, neTup (e a) = true) {xs : List α} (h : xs.length ≤ 1000000) : sortE e xs = rtn (xs.mergeSort fun a b => !lt e b a) := by
  unfold sortE
  rw [all_he (p := neTup) hn, decide_eq_true (small_sz h)]; simp
/-! ### slices -/
abbrev RO (X : Ev.Row → Res (Option Int)) (m : M (Option Int)) : Prop := RR X m fun a b => b = a
theorem ro_none : RO (oNone ρ) (rtn none) := RR.ok rfl
theorem ro_some {m : M Int} (h : RE (d ρ) eI m) : RO (oSome d ρ) (bnd m fun a => rtn (some a)) := h.ebind fun a => RR.ok rfl
theorem cutL_map (xs : List α) (lo hi : Option Int) : cutL (xs.map e) lo hi = (cutL xs lo hi).map e := by
  unfold cutL
  rw [List.length_map, List.map_take, List.map_drop]
variable {lo hi : Ev.Env → Ev.Row → Res (Option Int)} {ml mh : M (Option Int)}
theorem re_slice {m : M (List α)} (h : RE (d ρ) (eT e) m) (hl : RO (lo ρ) ml) (hh : RO (hi ρ) mh) : RE (dSlice d lo hi ρ) (eT e) (bnd m fun xs => bnd ml fun l => bnd mh fun h => rtn (cutL xs l h)) := h.ebind fun xs => RR.ebind (e := id) hl fun l => RR.ebind (e := id) hh fun h => by
  show RE (fun R => Ev.ofO (some (PyData.tuple (cutL (xs.map e) l h))) R) _ _
  rw [cutL_map]
  exact RR.ok rfl
theorem rl_slice {m : M (List α)} (h : RE (d ρ) (eL e) m) (hl : RO (lo ρ) ml) (hh : RO (hi ρ) mh) : RL (nSlice d lo hi ρ) e (bnd m fun xs => bnd ml fun l => bnd mh fun h => rtn (cutL xs l h)) := h.ebind fun xs => RR.ebind (e := id) hl fun l => RR.ebind (e := id) hh fun h => by
  show RL (fun R => Ev.ofO (some (cutL (xs.map e) l h)) R) _ _
  rw [cutL_map]
  exact RR.ok rfl
theorem cut_drop (xs : List α) (n : Nat) : cutL xs (some (n : Int)) none = xs.drop n := by
  have h0 : ¬ ((n : Int) < 0) := by omega
  unfold cutL HT.sIx
  simp [h0]
  by_cases h : n ≤ xs.length
  · rw [show min n xs.length = n from by omega, List.take_of_length_le (by simp)]
  · rw [show min n xs.length = xs.length from by omega, List.drop_of_length_le (Nat.le_refl _), List.drop_of_length_le (by omega)]
    simp
theorem cut_take (xs : List α) (n : Nat) : cutL xs none (some (n : Int)) = xs.take n := by
  have h0 : ¬ ((n : Int) < 0) := by omega
  unfold cutL HT.sIx
  simp [h0]
/-! ### new lists -/
def catN2 (xs ys : List α) : M (List α) := catT xs ys
theorem rl_cat {m n : M (List α)} (h : RE (d1 ρ) (eL e) m) (k : RE (d2 ρ) (eL e) n) : RL (nBin catN d1 d2 ρ) e (bnd m fun xs => bnd n fun ys => catT xs ys) := h.ebind fun xs => k.ebind fun ys => by
  unfold catT grd
  split
  · rename_i hc
    have : catN (eL e xs) (eL e ys) = some ((xs ++ ys).map e) := by
      show (if (xs.map e).length + (ys.map e).length ≤ sizeLine then some (xs.map e ++ ys.map e) else none) = _
      rw [if_pos (by simpa using of_decide_eq_true hc), List.map_append]
    rw [this]; exact RR.ok rfl
  · exact RR.stk
def repN2 (xs : List α) (k : Int) : M (List α) := grd (decide (-(2 ^ 63) ≤ k ∧ k < 2 ^ 63 ∧ xs.length * k.toNat ≤ sizeLine)) (rtn (List.replicate k.toNat xs).flatten)
theorem rl_rep {m : M (List α)} {n : M Int} (h : RE (d1 ρ) (eL e) m) (k : RE (d2 ρ) eI n) : RL (nBin repN d1 d2 ρ) e (bnd m fun xs => bnd n fun k => repN2 xs k) := h.ebind fun xs => k.ebind fun k => by
  unfold repN2 grd
  split
  · rename_i hc
    have : repN (eL e xs) (eI k) = some (((List.replicate k.toNat xs).flatten).map e) := by
      show (if -(2 ^ 63) ≤ k ∧ k < 2 ^ 63 ∧ (xs.map e).length * k.toNat ≤ sizeLine then some (List.replicate k.toNat (xs.map e)).flatten else none) = _
      rw [List.length_map, if_pos (of_decide_eq_true hc), map_flat]
    rw [this]; exact RR.ok rfl
  · exact RR.stk
theorem rep_ok {a : α} {k : Int} (h : 0 ≤ k) (h2 : k ≤ 1000000) : repN2 [a] k = rtn (List.replicate k.toNat a) := by
  unfold repN2
  rw [decide_eq_true ⟨by omega, by omega, small_sz (by simp; omega)⟩]
  rw [grd_t]
  congr 1
  generalize k.toNat = n
  induction n with
  | zero => rfl
  | succ n ih => rw [List.replicate_succ, List.flatten_cons, ih]; rfl
/-! ### sorted(set(..)), len(set(..)) -/
theorem intsO_e (xs : List Int) : intsO (xs.map eI) = if decide (xs.length ≤ 60) then some xs else none := by
  unfold intsO
  have h1 : (xs.map eI).all isI = true := by rw [List.all_map, List.all_eq_true]; intro x _; rfl
  have h2 : (xs.map eI).map toI = xs := by
    rw [List.map_map]
    exact (List.map_congr_left fun x _ => rfl).trans (List.map_id xs)
  rw [h1, h2, List.length_map, Bool.true_and]
def sortSetT (xs : List Int) : M (List Int) := grd (decide (xs.length ≤ 60)) (rtn (sSet xs))
def lenSetT (xs : List Int) : M Int := grd (decide (xs.length ≤ 60)) (rtn ((sSet xs).length : Int))
theorem sortSet_ok {xs : List Int} (h : xs.length ≤ 60) : sortSetT xs = rtn (sSet xs) := by unfold sortSetT; rw [decide_eq_true h]; exact grd_t _
theorem lenSet_ok {xs : List Int} (h : xs.length ≤ 60) : lenSetT xs = rtn ((sSet xs).length : Int) := by unfold lenSetT; rw [decide_eq_true h]; exact grd_t _
theorem sortSet_e {ds : List PyData} {xs : List Int} (h : setI ds = intsO (xs.map eI)) : RL (fun R => Ev.ofO (sortSetD ds) R) eI (sortSetT xs) := by
  unfold sortSetD sortSetT
  rw [h, intsO_e, grd_def]
  split
  · exact RR.ok rfl
  · exact RR.stk
theorem lenSet_e {ds : List PyData} {xs : List Int} (h : setI ds = intsO (xs.map eI)) : RE (fun R => Ev.ofO (lenSetD ds) R) eI (lenSetT xs) := by
  unfold lenSetD lenSetT
  rw [h, intsO_e, grd_def]
  split
  · exact RR.ok rfl
  · exact RR.stk
theorem ul_sortSetL (xs : List Int) : RL (fun R => Ev.ofO (sortSetD [eL eI xs]) R) eI (sortSetT xs) := sortSet_e rfl
theorem ul_sortSetT (xs : List Int) : RL (fun R => Ev.ofO (sortSetD [eT eI xs]) R) eI (sortSetT xs) := sortSet_e rfl
theorem u_lenSetL (xs : List Int) : RE (fun R => Ev.ofO (lenSetD [eL eI xs]) R) eI (lenSetT xs) := lenSet_e rfl
theorem u_lenSetT (xs : List Int) : RE (fun R => Ev.ofO (lenSetD [eT eI xs]) R) eI (lenSetT xs) := lenSet_e rfl
/-! ### walks -/
theorem rl_seqL {m : M (List α)} (h : RE (d ρ) (eL e) m) : RL (lSeq d ρ) e m := (h.ebind (f := rtn) fun xs => (RR.ok rfl : RL (fun R => .ok (xs.map e) R) e (rtn xs))).conv (bnd_rtn' m)
theorem rl_seqT {m : M (List α)} (h : RE (d ρ) (eT e) m) : RL (lSeq d ρ) e m := (h.ebind (f := rtn) fun xs => (RR.ok rfl : RL (fun R => .ok (xs.map e) R) e (rtn xs))).conv (bnd_rtn' m)
theorem rl_seqP2 {m : M (α × α)} (h : RE (d ρ) (eP2 e e) m) : RL (lSeq d ρ) e (bnd m fun p => rtn [p.1, p.2]) := h.ebind fun xs => RR.ok rfl
theorem rl_seqP3 {m : M (α × α × α)} (h : RE (d ρ) (eP3 e e e) m) : RL (lSeq d ρ) e (bnd m fun p => rtn [p.1, p.2.1, p.2.2]) := h.ebind fun xs => RR.ok rfl
def rngT1 (j : Int) : M (List Int) := grd (decide (in62 j)) (rtn (rngI 0 j.toNat))
def rngT2 (i j : Int) : M (List Int) := grd (decide (in62 i ∧ in62 j)) (rtn (rngI i (j - i).toNat))
def rngT3 (i j : Int) : M (List Int) := grd (decide (in62 i ∧ in62 j)) (rtn ((List.range (i - j).toNat).map fun k : Nat => i - (k : Int)))
theorem lR1 {d1 : Den} : lRange1 (lCons d1 lNil) ρ = fun R => (d1 ρ R).bind fun x R1 => rng1 [x] R1 := by funext R; simp
theorem lR2 {d1 d2 : Den} : lRange2 (lCons d1 (lCons d2 lNil)) ρ = fun R => (d1 ρ R).bind fun x R1 => (d2 ρ R1).bind fun y R2 => rng2 [x, y] R2 := by funext R; simp
theorem lR3 {d1 d2 d3 : Den} : lRange3 (lCons d1 (lCons d2 (lCons d3 lNil))) ρ = fun R => (d1 ρ R).bind fun x R1 => (d2 ρ R1).bind fun y R2 => (d3 ρ R2).bind fun z R3 => rng3 [x, y, z] R3 := by funext R; simp
theorem rl_rng1 {m : M Int} (h : RE (d1 ρ) eI m) : RL (lRange1 (lCons d1 lNil) ρ) eI (bnd m rngT1) := by
  rw [lR1]
  refine h.ebind fun j => ?_
  unfold rngT1 grd
  split
  · rename_i hc
    have : (fun R => rng1 [eI j] R) = fun R => .ok ((rngI 0 j.toNat).map eI) R := by funext R; rw [← rngI_map]; exact rng1_i (of_decide_eq_true hc)
    rw [show rng1 [eI j] = fun R => .ok ((rngI 0 j.toNat).map eI) R from this]
    exact RR.ok rfl
  · exact RR.stk
theorem rl_rng2 {m n : M Int} (h : RE (d1 ρ) eI m) (k : RE (d2 ρ) eI n) : RL (lRange2 (lCons d1 (lCons d2 lNil)) ρ) eI (bnd m fun i => bnd n fun j => rngT2 i j) := by
  rw [lR2]
  refine h.ebind fun i => k.ebind fun j => ?_
  unfold rngT2 grd
  split
  · rename_i hc
    have hc := of_decide_eq_true hc
    have : (fun R => rng2 [eI i, eI j] R) = fun R => .ok ((rngI i (j - i).toNat).map eI) R := by funext R; rw [← rngI_map]; exact rng2_i hc.1 hc.2
    rw [show rng2 [eI i, eI j] = fun R => .ok ((rngI i (j - i).toNat).map eI) R from this]
    exact RR.ok rfl
  · exact RR.stk
theorem rl_rng3 {m n : M Int} (h : RE (d1 ρ) eI m) (k : RE (d2 ρ) eI n) : RL (lRange3 (lCons d1 (lCons d2 (lCons (dUn negD (dC (.int 1))) lNil))) ρ) eI (bnd m fun i => bnd n fun j => rngT3 i j) := by
  rw [lR3]
  refine h.ebind fun i => k.ebind fun j => ?_
  show RL (fun R => rng3 [eI i, eI j, .int (-1)] R) _ _
  unfold rngT3 grd
  split
  · rename_i hc
    have hc := of_decide_eq_true hc
    have : (fun R => rng3 [eI i, eI j, .int (-1)] R) = fun R => .ok (((List.range (i - j).toNat).map fun k : Nat => i - (k : Int)).map eI) R := by
      funext R
      have q := rng3_i (R := R) hc.1 hc.2
      rw [show rng3 [eI i, eI j, .int (-1)] R = _ from q]
      congr 1
      unfold rangeC
      rw [List.map_map]
      apply List.map_congr_left
      intro k _
      show PyData.int (i + (k : Int) * (-1)) = PyData.int (i - (k : Int))
      congr 1
      omega
    rw [this]
    exact RR.ok rfl
  · exact RR.stk
theorem rng1_ok {j : Int} (h : -1000000000 ≤ j) (h' : j ≤ 1000000000) : rngT1 j = rtn (rngI 0 j.toNat) := by unfold rngT1; rw [decide_eq_true (in62_of h h')]; exact grd_t _
theorem rng2_ok {i j : Int} (h : -1000000000 ≤ i ∧ i ≤ 1000000000) (h' : -1000000000 ≤ j ∧ j ≤ 1000000000) : rngT2 i j = rtn (rngI i (j - i).toNat) := by unfold rngT2; rw [decide_eq_true ⟨in62_of h.1 h.2, in62_of h'.1 h'.2⟩]; exact grd_t _
theorem rng3_ok {i j : Int} (h : -1000000000 ≤ i ∧ i ≤ 1000000000) (h' : -1000000000 ≤ j ∧ j ≤ 1000000000) : rngT3 i j = rtn ((List.range (i - j).toNat).map fun k : Nat => i - (k : Int)) := by unfold rngT3; rw [decide_eq_true ⟨in62_of h.1 h.2, in62_of h'.1 h'.2⟩]; exact grd_t _
theorem pairD_map (xs : List α) (ys : List β) : pairD (xs.map e1) (ys.map e2) = (xs.zip ys).map (eP2 e1 e2) := by
  unfold pairD
  rw [List.zip_map, List.map_map]
  rfl
def sK (k : Bool) (e : α → PyData) : List α → PyData := if k then eT e else eL e
theorem seqD_K (k : Bool) (xs : List α) : seqD (sK k e xs) = some (xs.map e) := by cases k <;> rfl
theorem lZ2 {d1 d2 : Den} : lZipA (lCons d1 (lCons d2 lNil)) ρ = fun R => (d1 ρ R).bind fun x R1 => (d2 ρ R1).bind fun y R2 => Ev.ofO (zipA [x, y]) R2 := by
  funext R
  simp only [lZipA, lCons_ap, lNil_ap, bind_bind, bind_ok]
theorem rl_zip (k1 k2 : Bool) {m : M (List α)} {n : M (List β)} (h : RE (d1 ρ) (sK k1 e1) m) (k : RE (d2 ρ) (sK k2 e2) n) : RL (lZipA (lCons d1 (lCons d2 lNil)) ρ) (eP2 e1 e2) (bnd m fun xs => bnd n fun ys => rtn (xs.zip ys)) := by
  rw [lZ2]
  refine h.ebind fun xs => k.ebind fun ys => ?_
  have : zipA [sK k1 e1 xs, sK k2 e2 ys] = some ((xs.zip ys).map (eP2 e1 e2)) := by
    show ((seqD _).bind fun xs => (seqD _).map fun ys => pairD xs ys) = _
    rw [seqD_K, seqD_K, ← pairD_map]
    rfl
  rw [this]
  exact RR.ok rfl
def enumT (xs : List α) : List (Int × α) := (rngI 0 xs.length).zip xs
theorem lE1 {d1 : Den} : lEnum (lCons d1 lNil) ρ = fun R => (d1 ρ R).bind fun x R1 => Ev.ofO ((seqD x).map enumD) R1 := by
  funext R
  simp only [lEnum, lCons_ap, lNil_ap, bind_bind, bind_ok]
theorem rl_enum (k : Bool) {m : M (List α)} (h : RE (d1 ρ) (sK k e1) m) : RL (lEnum (lCons d1 lNil) ρ) (eP2 eI e1) (bnd m fun xs => rtn (enumT xs)) := by
  rw [lE1]
  refine h.ebind fun xs => ?_
  have : (seqD (sK k e1 xs)).map enumD = some ((enumT xs).map (eP2 eI e1)) := by
    rw [seqD_K]
    show some (pairD (rangeL 0 (xs.map e1).length) (xs.map e1)) = _
    rw [rngI_map, pairD_map, List.length_map]
    rfl
  rw [this]
  exact RR.ok rfl
/-! ### comprehensions -/
/-- one after another; what comes of each, joined -/
def compT (f : α → M (List β)) : List α → M (List β)
  | [] => rtn []
  | x :: xs => fun R => match f x R with
    | .ok o R1 => (compT f xs R1).bind fun r R2 => .ok (o ++ r) R2
    | _ => .stuck
theorem compT_cons {f : α → M (List β)} {x : α} {xs : List α} {o : List β} (h : f x = rtn o) : compT f (x :: xs) = bnd (compT f xs) fun r => rtn (o ++ r) := by
  funext R
  show (match f x R with | .ok o R1 => (compT f xs R1).bind fun r R2 => .ok (o ++ r) R2 | _ => .stuck) = _
  rw [h]
  rfl
/-- turns that draw nothing -/
theorem compT_eq {f : α → M (List β)} {g : α → List β} : ∀ {xs : List α}, (∀ x ∈ xs, f x = rtn (g x)) → compT f xs = rtn (xs.flatMap g)
  | [], _ => rfl
  | x :: xs, h => by rw [compT_cons (h x List.mem_cons_self), compT_eq fun y hy => h y (List.mem_cons_of_mem _ hy)]; rfl
def one (mt : M Bool) (me : M β) : M (List β) := bnd mt fun b => if b then bnd me fun y => rtn [y] else rtn []
theorem compT_map {f : α → M (List β)} {g : α → β} {xs : List α} (h : ∀ x ∈ xs, f x = rtn [g x]) : compT f xs = rtn (xs.map g) := by
  rw [compT_eq h]
  congr 1
  exact flat_one g xs
theorem compT_filter {f : α → M (List β)} {p : α → Bool} {g : α → β} {xs : List α} (h : ∀ x ∈ xs, f x = rtn (if p x then [g x] else [])) : compT f xs = rtn ((xs.filter p).map g) := by
  rw [compT_eq h]
  congr 1
  exact flat_if p g xs
theorem compT_sel {f : α → M (List α)} {p : α → Bool} {xs : List α} (h : ∀ x ∈ xs, f x = rtn (if p x then [x] else [])) : compT f xs = rtn (xs.filter p) := by
  rw [compT_filter (g := id) h, List.map_id]
@[simp] theorem one_ret (b : Bool) (y : β) : one (rtn b) (rtn y) = rtn (if b then [y] else []) := by cases b <;> rfl
@[simp] theorem one_t (m : M β) : one (rtn true) m = bnd m fun y => rtn [y] := eqr rfl
@[simp] theorem one_f (m : M β) : one (rtn false) m = rtn [] := eqr rfl
theorem comp_sim {f : PyData → Ev.Row → Res (List PyData)} {g : α → M (List β)} (h : ∀ x, RL (f (e1 x)) e2 (g x)) : ∀ xs : List α, RL (compM f (xs.map e1)) e2 (compT g xs)
  | [] => RR.ok rfl
  | x :: xs => fun R => by
    have q := h x R
    show SimR (match f (e1 x) R with | .ok o R1 => (compM f (xs.map e1) R1).bind fun r R2 => .ok (o ++ r) R2 | _ => .stuck) (match g x R with | .ok o R1 => (compT g xs R1).bind fun r R2 => .ok (o ++ r) R2 | _ => .stuck) _
    cases e : g x R with
    | ok o R1 =>
      rw [e] at q
      obtain ⟨b, q1, q2⟩ := q
      rw [q1]
      subst q2
      have := (comp_sim h xs).ebind (Y := fun r R2 => Res.ok (o.map e2 ++ r) R2) (f := fun r => rtn (o ++ r)) (Ψ := fun a b => b = a.map e2) fun r => RR.ok (by rw [List.map_append])
      exact this R1
    | exc n R1 => exact True.intro
    | stuck => exact True.intro
variable {it it1 : DenL} {tgt tgt1 : Tgt} {vs vs1 : List Nat} {tt tt1 : DenB} {elt : Den}
theorem turnC_sim {x : PyData} {ρ' : Ev.Env} {mt : M Bool} {me : M β} (ht : tgt x (wipeE ρ vs) = some ρ') (h1 : RB (tt ρ') mt) (h2 : RE (elt ρ') e2 me) : RL (turnC tgt vs tt elt ρ x) e2 (one mt me) := by
  have : turnC tgt vs tt elt ρ x = fun R => (tt ρ' R).bind fun b R1 => if b then (elt ρ' R1).bind fun y R2 => .ok [y] R2 else .ok [] R1 := by
    funext R
    unfold turnC
    rw [ht]
  rw [this]
  refine RR.ebind (e := id) h1 fun b => ?_
  cases b
  · exact RR.ok rfl
  · exact h2.ebind fun y => RR.ok rfl
/-- [elt for tgt in it if tt] -/
theorem rl_comp {mi : M (List α)} {g : α → M (List β)} (hi : RL (it ρ) e1 mi) (h : ∀ x, RL (turnC tgt vs tt elt ρ (e1 x)) e2 (g x)) : RL (nComp it tgt vs tt elt ρ) e2 (bnd mi fun xs => bnd (compT g xs) szT) := hi.ebind fun xs => (comp_sim h xs).ebind fun ys => sz_l
theorem turnC2_sim {x : PyData} {ρ' : Ev.Env} {mt : M Bool} {mi : M (List α)} {g : α → M (List β)} (ht : tgt x (wipeE ρ vs) = some ρ') (h1 : RB (tt ρ') mt) (hi : RL (it1 ρ') e1 mi) (h : ∀ y, RL (turnC tgt1 vs1 tt1 elt ρ' (e1 y)) e2 (g y)) :
    RL (turnC2 tgt vs tt it1 tgt1 vs1 tt1 elt ρ x) e2 (bnd mt fun b => if b then bnd mi fun ys => compT g ys else rtn []) := by
  have : turnC2 tgt vs tt it1 tgt1 vs1 tt1 elt ρ x = fun R => (tt ρ' R).bind fun b R1 => if b then (it1 ρ' R1).bind fun ds1 R2 => compM (turnC tgt1 vs1 tt1 elt ρ') ds1 R2 else .ok [] R1 := by
    funext R
    unfold turnC2
    rw [ht]
  rw [this]
  refine RR.ebind (e := id) h1 fun b => ?_
  cases b
  · exact RR.ok rfl
  · exact hi.ebind fun ys => comp_sim h ys
theorem rl_comp2 {mi : M (List γ)} {g : γ → M (List β)} (hi : RL (it ρ) e3 mi) (h : ∀ x, RL (turnC2 tgt vs tt it1 tgt1 vs1 tt1 elt ρ (e3 x)) e2 (g x)) : RL (nComp2 it tgt vs tt it1 tgt1 vs1 tt1 elt ρ) e2 (bnd mi fun xs => bnd (compT g xs) szT) := hi.ebind fun xs => (comp_sim h xs).ebind fun ys => sz_l
end
end Ty

/-! Ty: statements -/
namespace Ty
open PySem PySem.Spec Ev
/-- what comes of a block: on, or out with a value -/
inductive Fw (σ τ : Type) where
  | nx (s : σ)
  | rt (a : τ)
section
variable {α β γ δ σ σ' τ υ : Type} {ρ : Ev.Env} {e : α → PyData} {e1 : α → PyData} {e2 : β → PyData} {e3 : γ → PyData} {er : τ → PyData}
variable {d d1 d2 : Den} {m : M α} {b : DenB} {mb : M Bool} {s1 s2 rest : DenS}
abbrev RG (X : Ev.Row → Res Fl) (m : M υ) (Φ : υ → Fl → Prop) : Prop := RR X m Φ
def PT (er : τ → PyData) : τ → Fl → Prop := fun a fl => fl = .rt (er a)
def PN (Rel : σ → Ev.Env → Prop) : σ → Fl → Prop := fun s fl => ∃ ρ', fl = .nx ρ' ∧ Rel s ρ'
def PM (Rel : σ → Ev.Env → Prop) (er : τ → PyData) : Fw σ τ → Fl → Prop := fun w fl => match w with
  | .nx s => ∃ ρ', fl = .nx ρ' ∧ Rel s ρ'
  | .rt a => fl = .rt (er a)
variable {Ψ : υ → Fl → Prop} {f : α → M υ}
theorem rg_ret {m : M τ} (h : RE (d ρ) er m) : RG (sRet d ρ) m (PT er) := (h.ebind (f := rtn) fun a => (RR.ok rfl : RG (fun R => .ok (.rt (er a)) R) (rtn a) (PT er))).conv (bnd_rtn' m)
theorem rg_next {Rel : σ → Ev.Env → Prop} (s : σ) (h : Rel s ρ) : RG (sNext ρ) (rtn s) (PN Rel) := RR.ok ⟨ρ, rfl, h⟩
theorem rg_retM {Rel : σ → Ev.Env → Prop} {m : M τ} (h : RE (d ρ) er m) : RG (sRet d ρ) (bnd m fun a => rtn (Fw.rt a)) (PM Rel er) := h.ebind fun a => RR.ok rfl
theorem rg_nextM {Rel : σ → Ev.Env → Prop} (s : σ) (h : Rel s ρ) : RG (sNext ρ) (rtn (Fw.nx s)) (PM Rel er) := RR.ok ⟨ρ, rfl, h⟩
/-- one statement that goes on, then the rest -/
theorem rg_seq {Rel : σ → Ev.Env → Prop} {ms : M σ} {f : σ → M υ} (h : RG (s1 ρ) ms (PN Rel)) (k : ∀ s ρ', Rel s ρ' → RG (s2 ρ') (f s) Ψ) : RG (sSeq s1 s2 ρ) (bnd ms f) Ψ := h.bind fun s fl ⟨ρ', e, r⟩ => by subst e; exact k s ρ' r
/-- on, or out -/
def thn (ms : M (Fw σ τ)) (f : σ → M υ) (g : τ → M υ) : M υ := bnd ms fun w => match w with
  | .nx s => f s
  | .rt a => g a
@[simp] theorem thn_nx {s : σ} {f : σ → M υ} {g : τ → M υ} : thn (rtn (.nx s)) f g = f s := eqr rfl
@[simp] theorem thn_rt {a : τ} {f : σ → M υ} {g : τ → M υ} : thn (rtn (.rt a)) f g = g a := eqr rfl
/-- a block that leaves on some ways, then the rest -/
theorem rg_seqM {Rel : σ → Ev.Env → Prop} {ms : M (Fw σ τ)} {f : σ → M τ} (h : RG (s1 ρ) ms (PM Rel er)) (k : ∀ s ρ', Rel s ρ' → RG (s2 ρ') (f s) (PT er)) : RG (sSeq s1 s2 ρ) (thn ms f rtn) (PT er) := h.bind fun w fl p => by
  cases w with
  | nx s =>
    obtain ⟨ρ', e, r⟩ := p
    subst e
    exact k s ρ' r
  | rt a =>
    have p : fl = .rt (er a) := p
    subst p
    exact RR.ok rfl
theorem rg_seqMM {Rel : σ → Ev.Env → Prop} {Rel' : σ' → Ev.Env → Prop} {ms : M (Fw σ τ)} {f : σ → M (Fw σ' τ)} (h : RG (s1 ρ) ms (PM Rel er)) (k : ∀ s ρ', Rel s ρ' → RG (s2 ρ') (f s) (PM Rel' er)) : RG (sSeq s1 s2 ρ) (thn ms f fun a => rtn (.rt a)) (PM Rel' er) := h.bind fun w fl p => by
  cases w with
  | nx s =>
    obtain ⟨ρ', e, r⟩ := p
    subst e
    exact k s ρ' r
  | rt a =>
    have p : fl = .rt (er a) := p
    subst p
    exact RR.ok rfl
/-! ### stores -/
theorem rg_asgM {ks : List Nat} {i : Nat} (h : RE (d (wipeE ρ ks)) e m) (k : ∀ a, RG (rest (ρ.set i (some (e a)))) (f a) Ψ) : RG (sSeq (sAsgM ks (gSet i) d) rest ρ) (bnd m f) Ψ := by
  have : sSeq (sAsgM ks (gSet i) d) rest ρ = fun R => (d (wipeE ρ ks) R).bind fun x R1 => rest (ρ.set i (some x)) R1 := by
    funext R
    simp only [sSeq_ap, sAsgM_ap, bind_bind, asgR_g, bind_ok, sThen_nx]
  rw [this]
  exact h.ebind k
theorem rg_asg {i : Nat} (p : PuE e) (h : RE (d ρ) e m) (k : ∀ a, RG (rest (ρ.set i (some (e a)))) (f a) Ψ) : RG (sSeq (sAsg (gSet i) d) rest ρ) (bnd m f) Ψ := by
  have : sSeq (sAsg (gSet i) d) rest ρ = fun R => (d ρ R).bind fun x R1 => (if pureD x then Res.ok (Fl.nx (ρ.set i (some x))) R1 else .stuck).bind (sThen rest) := by
    funext R
    simp only [sSeq_ap, sAsg_ap, bind_bind, asgR_g]
  rw [this]
  refine h.ebind fun a => ?_
  rw [show (fun R1 => (if pureD (e a) then Res.ok (Fl.nx (ρ.set i (some (e a)))) R1 else .stuck).bind (sThen rest)) = fun R1 => rest (ρ.set i (some (e a))) R1 from by funext R1; rw [if_pos (p a)]; rfl]
  exact k a
/-- a tuple of names -/
theorem rg_asgT {ks : List Nat} {t : Tgt} (g : α → Ev.Env) (h : RE (d (wipeE ρ ks)) e m) (ht : ∀ a, t (e a) ρ = some (g a)) (k : ∀ a, RG (rest (g a)) (f a) Ψ) : RG (sSeq (sAsgM ks t d) rest ρ) (bnd m f) Ψ := by
  have : sSeq (sAsgM ks t d) rest ρ = fun R => (d (wipeE ρ ks) R).bind fun x R1 => (asgR t ρ x R1).bind (sThen rest) := by
    funext R
    simp only [sSeq_ap, sAsgM_ap, bind_bind]
  rw [this]
  refine h.ebind fun a => ?_
  rw [show asgR t ρ (e a) = fun R1 => .ok (.nx (g a)) R1 from by funext R1; exact asgR_some (ht a)]
  exact k a
theorem rg_newM {ks : List Nat} {i : Nat} (h : RE (d (wipeE ρ ks)) e m) (hi : i < ρ.length) (k : ∀ a, RG (rest (ρ.set i (some (e a)))) (f a) Ψ) : RG (sSeq (sNewM ks i d) rest ρ) (bnd m f) Ψ := by
  have : sSeq (sNewM ks i d) rest ρ = fun R => (d (wipeE ρ ks) R).bind fun x R1 => rest (ρ.set i (some x)) R1 := by
    funext R
    simp only [sSeq_ap, sNewM_ap, bind_bind, decide_eq_true hi, if_true, bind_ok, sThen_nx]
  rw [this]
  exact h.ebind k
theorem rg_new {i : Nat} (p : PiE e) (h : RE (d ρ) e m) (hi : i < ρ.length) (k : ∀ a, RG (rest (ρ.set i (some (e a)))) (f a) Ψ) : RG (sSeq (sNew i d) rest ρ) (bnd m f) Ψ := by
  have : sSeq (sNew i d) rest ρ = fun R => (d ρ R).bind fun x R1 => (if pureIn x then Res.ok (Fl.nx (ρ.set i (some x))) R1 else .stuck).bind (sThen rest) := by
    funext R
    simp only [sSeq_ap, sNew_ap, bind_bind, decide_eq_true hi, Bool.and_true]
  rw [this]
  refine h.ebind fun a => ?_
  rw [show (fun R1 => (if pureIn (e a) then Res.ok (Fl.nx (ρ.set i (some (e a)))) R1 else .stuck).bind (sThen rest)) = fun R1 => rest (ρ.set i (some (e a))) R1 from by funext R1; rw [if_pos (p a)]; rfl]
  exact k a
/-- several names -/
theorem sPar_ap {kM is : List Nat} {l : DenL} {R : Ev.Row} : sPar kM is l ρ R = (l (wipeE ρ kM) R).bind fun ds R1 => if decide (ds.length = is.length) && is.all (fun i => decide (i < ρ.length)) then .ok (.nx (setAll ρ is ds)) R1 else .stuck := rfl
theorem rg_par2 {kM : List Nat} {i j : Nat} {m1 : M α} {m2 : M β} {f : α → β → M υ} (hi : ([i, j] : List Nat).all (fun i => decide (i < ρ.length)) = true) (h1 : RE (d1 (wipeE ρ kM)) e1 m1) (h2 : RE (d2 (wipeE ρ kM)) e2 m2)
    (k : ∀ a b, RG (rest ((ρ.set i (some (e1 a))).set j (some (e2 b)))) (f a b) Ψ) : RG (sSeq (sPar kM [i, j] (lCons d1 (lCons d2 lNil))) rest ρ) (bnd m1 fun a => bnd m2 fun b => f a b) Ψ := by
  have : sSeq (sPar kM [i, j] (lCons d1 (lCons d2 lNil))) rest ρ = fun R => (d1 (wipeE ρ kM) R).bind fun x R1 => (d2 (wipeE ρ kM) R1).bind fun y R2 => rest ((ρ.set i (some x)).set j (some y)) R2 := by
    funext R
    simp only [sSeq_ap, sPar_ap, hi, lCons_ap, lNil_ap, bind_bind, bind_ok, List.length_cons, List.length_nil, decide_true, Bool.and_true, if_true, sThen_nx, setAll]
  rw [this]
  exact h1.ebind fun a => h2.ebind fun b => k a b
theorem rg_par3 {kM : List Nat} {i j l : Nat} {d3 : Den} {m1 : M α} {m2 : M β} {m3 : M γ} {f : α → β → γ → M υ} (hi : ([i, j, l] : List Nat).all (fun i => decide (i < ρ.length)) = true) (h1 : RE (d1 (wipeE ρ kM)) e1 m1) (h2 : RE (d2 (wipeE ρ kM)) e2 m2) (h3 : RE (d3 (wipeE ρ kM)) e3 m3)
    (k : ∀ a b c, RG (rest (((ρ.set i (some (e1 a))).set j (some (e2 b))).set l (some (e3 c)))) (f a b c) Ψ) : RG (sSeq (sPar kM [i, j, l] (lCons d1 (lCons d2 (lCons d3 lNil)))) rest ρ) (bnd m1 fun a => bnd m2 fun b => bnd m3 fun c => f a b c) Ψ := by
  have : sSeq (sPar kM [i, j, l] (lCons d1 (lCons d2 (lCons d3 lNil)))) rest ρ = fun R => (d1 (wipeE ρ kM) R).bind fun x R1 => (d2 (wipeE ρ kM) R1).bind fun y R2 => (d3 (wipeE ρ kM) R2).bind fun z R3 => rest (((ρ.set i (some x)).set j (some y)).set l (some z)) R3 := by
    funext R
    simp only [sSeq_ap, sPar_ap, hi, lCons_ap, lNil_ap, bind_bind, bind_ok, List.length_cons, List.length_nil, decide_true, Bool.and_true, if_true, sThen_nx, setAll]
  rw [this]
  exact h1.ebind fun a => h2.ebind fun b => h3.ebind fun c => k a b c
theorem rg_par4 {kM : List Nat} {i j l q : Nat} {d3 d4 : Den} {e4 : δ → PyData} {m1 : M α} {m2 : M β} {m3 : M γ} {m4 : M δ} {f : α → β → γ → δ → M υ} (hi : ([i, j, l, q] : List Nat).all (fun i => decide (i < ρ.length)) = true) (h1 : RE (d1 (wipeE ρ kM)) e1 m1) (h2 : RE (d2 (wipeE ρ kM)) e2 m2) (h3 : RE (d3 (wipeE ρ kM)) e3 m3) (h4 : RE (d4 (wipeE ρ kM)) e4 m4)
    (k : ∀ a b c u, RG (rest ((((ρ.set i (some (e1 a))).set j (some (e2 b))).set l (some (e3 c))).set q (some (e4 u)))) (f a b c u) Ψ) : RG (sSeq (sPar kM [i, j, l, q] (lCons d1 (lCons d2 (lCons d3 (lCons d4 lNil))))) rest ρ) (bnd m1 fun a => bnd m2 fun b => bnd m3 fun c => bnd m4 fun u => f a b c u) Ψ := by
  have : sSeq (sPar kM [i, j, l, q] (lCons d1 (lCons d2 (lCons d3 (lCons d4 lNil))))) rest ρ = fun R => (d1 (wipeE ρ kM) R).bind fun x R1 => (d2 (wipeE ρ kM) R1).bind fun y R2 => (d3 (wipeE ρ kM) R2).bind fun z R3 => (d4 (wipeE ρ kM) R3).bind fun w R4 => rest ((((ρ.set i (some x)).set j (some y)).set l (some z)).set q (some w)) R4 := by
    funext R
    simp only [sSeq_ap, sPar_ap, hi, lCons_ap, lNil_ap, bind_bind, bind_ok, List.length_cons, List.length_nil, decide_true, Bool.and_true, if_true, sThen_nx, setAll]
  rw [this]
  exact h1.ebind fun a => h2.ebind fun b => h3.ebind fun c => h4.ebind fun u => k a b c u
/-- xs.append(a) -/
def appT (xs : List α) (a : α) : M (List α) := grd (decide (xs.length < sizeLine)) (rtn (xs ++ [a]))
theorem app_ok {xs : List α} {a : α} (h : xs.length < 1000000) : appT xs a = rtn (xs ++ [a]) := by unfold appT; rw [decide_eq_true (Nat.lt_of_lt_of_le h (small_sz (Nat.le_refl _)))]; exact grd_t _
theorem rg_app {i : Nat} {f : List α → M υ} (xs : List α) (hl : ρ[i]?.join = some (eL e xs)) (p : PuE e) (h : RE (d ρ) e m) (k : ∀ ys : List α, RG (rest (ρ.set i (some (eL e ys)))) (f ys) Ψ) : RG (sSeq (sApp i d) rest ρ) (bnd m fun a => bnd (appT xs a) f) Ψ := by
  have : sSeq (sApp i d) rest ρ = fun R => (d ρ R).bind fun v R1 => (if pureD v && decide ((xs.map e).length < sizeLine) then Res.ok (Fl.nx (ρ.set i (some (.list (xs.map e ++ [v]))))) R1 else .stuck).bind (sThen rest) := by
    funext R
    simp only [sSeq_ap, sApp_ap, lstAt_ap, hl, eL, lstO_l, ofO_some, bind_bind, bind_ok]
  rw [this]
  refine h.ebind fun a => ?_
  rw [p a, List.length_map]
  unfold appT grd
  by_cases hc : xs.length < sizeLine
  · simp only [decide_eq_true hc, Bool.and_true, if_true, bnd_rtn, bind_ok, sThen_nx]
    have := k (xs ++ [a])
    simp only [eL, List.map_append, List.map_cons, List.map_nil] at this
    exact this
  · simp only [decide_eq_false hc, Bool.and_false, Bool.false_eq_true, if_false, bnd_stk]
    exact RR.stk
/-- xs.extend(ys), ys a list -/
def extT (xs ys : List α) : M (List α) := grd (decide (xs.length + ys.length ≤ sizeLine)) (rtn (xs ++ ys))
/-- xs[i] = a -/
def setT (xs : List α) (i : Int) (a : α) : M (List α) := opt ((L2.ixN xs.length i).map fun j => xs.set j a)
theorem set_ok {xs : List α} {n : Nat} {a : α} (h : n < xs.length) : setT xs (n : Int) a = rtn (xs.set n a) := by
  unfold setT L2.ixN
  rw [if_pos (by omega), if_pos (by omega)]
  rfl
theorem rg_setI {i : Nat} {dk : Den} {mk : M Int} {f : List α → M υ} (xs : List α) (hl : ρ[i]?.join = some (eL e xs)) (p : PuE e) (h : RE (d ρ) e m) (hk : RE (dk ρ) eI mk) (k : ∀ ys : List α, RG (rest (ρ.set i (some (eL e ys)))) (f ys) Ψ) : RG (sSeq (sSetI i dk d) rest ρ) (bnd m fun a => bnd mk fun j => bnd (setT xs j a) f) Ψ := by
  have : sSeq (sSetI i dk d) rest ρ = fun R => (d ρ R).bind fun v R1 => (dk ρ R1).bind fun k R2 => (if pureD v then (Ev.ofO (setD (eL e xs) k v) R2).bind fun d R4 => .ok (.nx (ρ.set i (some d))) R4 else .stuck).bind (sThen rest) := by
    funext R
    simp only [sSeq_ap, sSetI_ap, valAt_ap, hl, ofO_some, bind_bind, bind_ok]
  rw [this]
  refine h.ebind fun a => hk.ebind fun j => ?_
  rw [p a]
  simp only [if_true]
  unfold setT
  have e0 : setD (eL e xs) (eI j) (e a) = ((L2.ixN xs.length j).map fun n => PyData.list ((xs.map e).set n (e a))) := by
    show (L2.ixN (xs.map e).length j).map _ = _
    rw [List.length_map]
  rw [e0]
  cases L2.ixN xs.length j with
  | none => exact RR.stk
  | some n =>
    simp only [Option.map_some, opt_some, bnd_rtn, ofO_some, bind_ok, sThen_nx]
    have := k (xs.set n a)
    simp only [eL, List.map_set] at this
    exact this
/-- xs[i] += a -/
def augT (g : Int → Int → Int) (xs : List Int) (i : Int) : M (Int × Nat) := opt (if 0 ≤ i then (L2.ixN xs.length i).bind fun j => (xs[j]?).map fun o => (o, j) else none)
theorem aug_ok {g : Int → Int → Int} {xs : List Int} {n : Nat} (h : n < xs.length) : augT g xs (n : Int) = rtn (xs[n], n) := by
  unfold augT L2.ixN
  rw [if_pos (by omega), if_pos (by omega), if_pos (by omega)]
  show opt ((xs[((n : Nat) : Int).toNat]?).map fun o => (o, ((n : Nat) : Int).toNat)) = _
  rw [Int.toNat_natCast, List.getElem?_eq_getElem h]
  rfl
theorem rg_augI {i : Nat} {g : Int → Int → Int} {dk : Den} {mk m : M Int} {f : List Int → M υ} (xs : List Int) (hl : ρ[i]?.join = some (eL eI xs)) (h : RE (d ρ) eI m) (hk : RE (dk ρ) eI mk) (k : ∀ ys : List Int, RG (rest (ρ.set i (some (eL eI ys)))) (f ys) Ψ) : RG (sSeq (sAugI i g dk d) rest ρ) (bnd mk fun j => bnd (augT g xs j) fun q => bnd m fun a => f (xs.set q.2 (g q.1 a))) Ψ := by
  have : sSeq (sAugI i g dk d) rest ρ = fun R => (dk ρ R).bind fun k R1 => (Ev.ofO (augI g (eL eI xs) k) R1).bind fun q R2 => (d ρ R2).bind fun v R3 => (Ev.ofO (augV g q v) R3).bind fun w R4 => rest (ρ.set i (some w)) R4 := by
    funext R
    simp only [sSeq_ap, sAugI, valAt_ap, hl, ofO_some, bind_bind, bind_ok, sThen_nx]
  rw [this]
  refine hk.ebind fun j => ?_
  unfold augT
  have e0 : augI g (eL eI xs) (eI j) = if 0 ≤ j then (L2.ixN xs.length j).bind fun n => match (xs.map eI)[n]? with | some (.int o) => some (xs.map eI, o, n) | _ => none else none := by
    show (if 0 ≤ j then (L2.ixN (xs.map eI).length j).bind _ else none) = _
    rw [List.length_map] <;> rfl
  rw [e0]
  by_cases hj : 0 ≤ j
  · rw [if_pos hj, if_pos hj]
    cases L2.ixN xs.length j with
    | none => exact RR.stk
    | some n =>
      simp only [Option.bind_some]
      rw [List.getElem?_map]
      cases xs[n]? with
      | none => exact RR.stk
      | some o =>
        simp only [Option.map_some, opt_some, bnd_rtn, eI, ofO_some, bind_ok]
        refine h.ebind fun a => ?_
        have := k (xs.set n (g o a))
        simp only [eL, List.map_set] at this
        exact this
  · rw [if_neg hj, if_neg hj]
    exact RR.stk
/-- x += a -/
theorem rg_aug {i : Nat} {g : Int → Int → Int} {m : M Int} {f : Int → M υ} (x : Int) (hl : ρ[i]?.join = some (eI x)) (h : RE (d ρ) eI m) (k : ∀ y : Int, RG (rest (ρ.set i (some (eI y)))) (f y) Ψ) : RG (sSeq (sAug i g d) rest ρ) (bnd m fun a => f (g x a)) Ψ := by
  have : sSeq (sAug i g d) rest ρ = fun R => (d ρ R).bind fun y R1 => (Ev.ofO (ipD g (eI x) y) R1).bind fun z R2 => rest (ρ.set i (some z)) R2 := by
    funext R
    simp only [sSeq_ap, sAug_ap, valAt_ap, hl, ofO_some, bind_bind, bind_ok, sThen_nx]
  rw [this]
  exact h.ebind fun a => k (g x a)
/-- a call whose result is let go -/
theorem rg_expr {m2 : M υ} (h : RE (d ρ) e m) (k : RG (rest ρ) m2 Ψ) : RG (sSeq (sExpr d) rest ρ) (bnd m fun _ => m2) Ψ := by
  have : sSeq (sExpr d) rest ρ = fun R => (d ρ R).bind fun _ R1 => rest ρ R1 := by
    funext R
    simp only [sSeq_ap, sExpr_ap, bind_bind, bind_ok, sThen_nx]
  rw [this]
  exact h.ebind fun _ => k
/-! ### if -/
theorem rg_if {m n : M υ} (h : RB (b ρ) mb) (h1 : RG (s1 ρ) m Ψ) (h2 : RG (s2 ρ) n Ψ) : RG (sIf b s1 s2 ρ) (bnd mb fun c => if c then m else n) Ψ := RR.ebind (e := id) h fun c => by
  cases c
  · exact h2
  · exact h1
/-- if b: .. return, then the rest -/
theorem rg_ifR {m n : M τ} (h : RB (b ρ) mb) (h1 : RG (s1 ρ) m (PT er)) (h2 : RG (rest ρ) n (PT er)) : RG (sSeq (sIf b s1 sNext) rest ρ) (bnd mb fun c => if c then m else n) (PT er) := by
  have : sSeq (sIf b s1 sNext) rest ρ = fun R => (b ρ R).bind fun c R1 => (if c then s1 ρ R1 else .ok (.nx ρ) R1).bind (sThen rest) := by
    funext R
    simp only [sSeq_ap, sIf_ap, sNext_ap, bind_bind]
  rw [this]
  refine RR.ebind (e := id) h fun c => ?_
  cases c
  · exact h2
  · refine RR.conv (m := bnd m rtn) (h1.bind fun a fl p => ?_) (bnd_rtn' m)
    have p : fl = .rt (er a) := p
    subst p
    exact RR.ok rfl
theorem rg_ifRM {Rel : σ → Ev.Env → Prop} {n : M (Fw σ τ)} {m0 : M τ} (h : RB (b ρ) mb) (h1 : RG (s1 ρ) m0 (PT er)) (h2 : RG (rest ρ) n (PM Rel er)) : RG (sSeq (sIf b s1 sNext) rest ρ) (bnd mb fun c => if c then bnd m0 fun a => rtn (Fw.rt a) else n) (PM Rel er) := by
  have : sSeq (sIf b s1 sNext) rest ρ = fun R => (b ρ R).bind fun c R1 => (if c then s1 ρ R1 else .ok (.nx ρ) R1).bind (sThen rest) := by
    funext R
    simp only [sSeq_ap, sIf_ap, sNext_ap, bind_bind]
  rw [this]
  refine RR.ebind (e := id) h fun c => ?_
  cases c
  · exact h2
  · refine h1.bind fun a fl p => ?_
    have p : fl = .rt (er a) := p
    subst p
    exact RR.ok rfl
/-- if b: .. return, at the end of a block that goes on -/
theorem rg_ifM {Rel : σ → Ev.Env → Prop} {m0 : M τ} (s : σ) (h : RB (b ρ) mb) (h1 : RG (s1 ρ) m0 (PT er)) (h2 : Rel s ρ) : RG (sIf b s1 sNext ρ) (bnd mb fun c => if c then bnd m0 fun a => rtn (Fw.rt a) else rtn (Fw.nx s)) (PM Rel er) := RR.ebind (e := id) h fun c => by
  cases c
  · exact RR.ok ⟨ρ, rfl, h2⟩
  · refine RR.conv (m := bnd m0 fun a => rtn (Fw.rt a)) ?_ rfl
    have := h1.bind (Y := fun fl R => .ok fl R) (f := fun a => rtn (Fw.rt a)) (Ψ := PM Rel er) fun a fl p => RR.ok p
    have e : (fun R => (s1 ρ R).bind fun fl R => .ok fl R) = s1 ρ := by
      funext R
      cases s1 ρ R <;> rfl
    rw [e] at this
    exact this
theorem rg_last {ms : M υ} (h : RG (sSeq s1 sNext ρ) ms Ψ) : RG (s1 ρ) ms Ψ := by
  have : sSeq s1 sNext ρ = s1 ρ := by
    funext R
    show (s1 ρ R).bind (sThen sNext) = _
    cases h : s1 ρ R with
    | ok fl R1 => cases fl <;> rfl
    | _ => rfl
  rw [this] at h
  exact h
/-! ### loops -/
def forT (g : α → σ → M σ) : List α → σ → M σ
  | [], s => rtn s
  | x :: xs, s => bnd (g x s) fun s' => forT g xs s'
def forR (g : α → σ → M (Fw σ τ)) : List α → σ → M (Fw σ τ)
  | [], s => rtn (.nx s)
  | x :: xs, s => bnd (g x s) fun w => match w with
    | .nx s' => forR g xs s'
    | .rt a => rtn (.rt a)
theorem for_sim {Rel : σ → Ev.Env → Prop} {f : PyData → Ev.Env → Ev.Row → Res Fl} {g : α → σ → M σ} (h : ∀ x s ρ', Rel s ρ' → RG (f (e1 x) ρ') (g x s) (PN Rel)) : ∀ (xs : List α) (s : σ) (ρ' : Ev.Env), Rel s ρ' → RG (forM f (xs.map e1) ρ') (forT g xs s) (PN Rel)
  | [], s, ρ', r => RR.ok ⟨ρ', rfl, r⟩
  | x :: xs, s, ρ', r => (h x s ρ' r).bind fun s2 fl ⟨ρ2, e, r2⟩ => by subst e; exact for_sim h xs s2 ρ2 r2
theorem forR_sim {Rel : σ → Ev.Env → Prop} {f : PyData → Ev.Env → Ev.Row → Res Fl} {g : α → σ → M (Fw σ τ)} (h : ∀ x s ρ', Rel s ρ' → RG (f (e1 x) ρ') (g x s) (PM Rel er)) : ∀ (xs : List α) (s : σ) (ρ' : Ev.Env), Rel s ρ' → RG (forM f (xs.map e1) ρ') (forR g xs s) (PM Rel er)
  | [], s, ρ', r => RR.ok ⟨ρ', rfl, r⟩
  | x :: xs, s, ρ', r => (h x s ρ' r).bind fun w fl p => by
    cases w with
    | nx s2 =>
      obtain ⟨ρ2, e, r2⟩ := p
      subst e
      exact forR_sim h xs s2 ρ2 r2
    | rt a =>
      have p : fl = .rt (er a) := p
      subst p
      exact RR.ok rfl
variable {it : DenL} {t : Tgt} {body : DenS} {mi : M (List α)}
theorem rg_forM {ks : List Nat} (Rel : σ → Ev.Env → Prop) {g : α → σ → M σ} (s0 : σ) (hi : RL (it (wipeE ρ ks)) e1 mi) (h0 : Rel s0 ρ) (h : ∀ x s ρ', Rel s ρ' → RG (turnF t body (e1 x) ρ') (g x s) (PN Rel)) : RG (sForM ks it t body ρ) (bnd mi fun xs => forT g xs s0) (PN Rel) := hi.ebind fun xs => for_sim h xs s0 ρ h0
theorem rg_for (Rel : σ → Ev.Env → Prop) {g : α → σ → M σ} (s0 : σ) (hi : RL (it ρ) e1 mi) (h0 : Rel s0 ρ) (h : ∀ x s ρ', Rel s ρ' → RG (turnF t body (e1 x) ρ') (g x s) (PN Rel)) : RG (sFor it t body ρ) (bnd mi fun xs => forT g xs s0) (PN Rel) := hi.ebind fun xs => for_sim h xs s0 ρ h0
theorem rg_forMR {ks : List Nat} (Rel : σ → Ev.Env → Prop) {g : α → σ → M (Fw σ τ)} (s0 : σ) (hi : RL (it (wipeE ρ ks)) e1 mi) (h0 : Rel s0 ρ) (h : ∀ x s ρ', Rel s ρ' → RG (turnF t body (e1 x) ρ') (g x s) (PM Rel er)) : RG (sForM ks it t body ρ) (bnd mi fun xs => forR g xs s0) (PM Rel er) := hi.ebind fun xs => forR_sim h xs s0 ρ h0
theorem rg_forRR (Rel : σ → Ev.Env → Prop) {g : α → σ → M (Fw σ τ)} (s0 : σ) (hi : RL (it ρ) e1 mi) (h0 : Rel s0 ρ) (h : ∀ x s ρ', Rel s ρ' → RG (turnF t body (e1 x) ρ') (g x s) (PM Rel er)) : RG (sFor it t body ρ) (bnd mi fun xs => forR g xs s0) (PM Rel er) := hi.ebind fun xs => forR_sim h xs s0 ρ h0
def whileT (c : σ → M Bool) (g : σ → M σ) : Nat → σ → M σ
  | 0, _ => stk
  | n + 1, s => bnd (c s) fun b => if b then bnd (g s) fun s' => whileT c g n s' else rtn s
theorem rg_while (Rel : σ → Ev.Env → Prop) {c : σ → M Bool} {g : σ → M σ} (n : Nat) (s0 : σ) (h0 : Rel s0 ρ) (hc : ∀ s ρ', Rel s ρ' → RB (b ρ') (c s)) (h : ∀ s ρ', Rel s ρ' → RG (body ρ') (g s) (PN Rel)) : RG (sWhile n b body ρ) (whileT c g n s0) (PN Rel) := by
  have : ∀ (n : Nat) (s : σ) (ρ' : Ev.Env), Rel s ρ' → RG (whileM b body n ρ') (whileT c g n s) (PN Rel) := by
    intro n
    induction n with
    | zero => intro s ρ' r; exact RR.stk
    | succ n ih =>
      intro s ρ' r
      refine RR.ebind (e := id) (hc s ρ' r) fun k => ?_
      cases k
      · exact RR.ok ⟨ρ', rfl, r⟩
      · exact (h s ρ' r).bind fun s2 fl ⟨ρ2, e, r2⟩ => by subst e; exact ih s2 ρ2 r2
  exact this n s0 ρ h0
def whileR (c : σ → M Bool) (g : σ → M (Fw σ τ)) : Nat → σ → M (Fw σ τ)
  | 0, _ => stk
  | n + 1, s => bnd (c s) fun b => if b then bnd (g s) fun w => match w with
    | .nx s' => whileR c g n s'
    | .rt a => rtn (.rt a) else rtn (.nx s)
theorem rg_whileR (Rel : σ → Ev.Env → Prop) {c : σ → M Bool} {g : σ → M (Fw σ τ)} (n : Nat) (s0 : σ) (h0 : Rel s0 ρ) (hc : ∀ s ρ', Rel s ρ' → RB (b ρ') (c s)) (h : ∀ s ρ', Rel s ρ' → RG (body ρ') (g s) (PM Rel er)) : RG (sWhile n b body ρ) (whileR c g n s0) (PM Rel er) := by
  have : ∀ (n : Nat) (s : σ) (ρ' : Ev.Env), Rel s ρ' → RG (whileM b body n ρ') (whileR c g n s) (PM Rel er) := by
    intro n
    induction n with
    | zero => intro s ρ' r; exact RR.stk
    | succ n ih =>
      intro s ρ' r
      refine RR.ebind (e := id) (hc s ρ' r) fun k => ?_
      cases k
      · exact RR.ok ⟨ρ', rfl, r⟩
      · refine (h s ρ' r).bind fun w fl p => ?_
        cases w with
        | nx s2 =>
          obtain ⟨ρ2, e, r2⟩ := p
          subst e
          exact ih s2 ρ2 r2
        | rt a =>
          have p : fl = .rt (er a) := p
          subst p
          exact RR.ok rfl
  exact this n s0 ρ h0
theorem rg_env {X : DenS} {ρ ρ' : Ev.Env} {m : M υ} (h : ρ = ρ') (k : RG (X ρ') m Ψ) : RG (X ρ) m Ψ := h ▸ k
/-! ### defs -/
theorem re_fn {j : Nat} {den : DenS} {ds : List PyData} {m : M τ} (h : RG (den (ds.map some ++ List.replicate j none)) m (PT er)) : RE (callF j den ds) er m := by
  refine RR.conv (m := bnd m rtn) (h.bind fun a fl p => ?_) (bnd_rtn' m)
  have p : fl = .rt (er a) := p
  subst p
  exact RR.ok rfl
/-- a def that ends without a value -/
theorem re_fnN {j : Nat} {den : DenS} {ds : List PyData} {m : M σ} {Rel : σ → Ev.Env → Prop} (h : RG (den (ds.map some ++ List.replicate j none)) m (PN Rel)) : RE (callF j den ds) eU (bnd m fun _ => rtn ()) := h.bind fun s fl ⟨ρ', e, r⟩ => by subst e; exact RR.ok rfl
/-! ### the shared helpers -/
def reqT (b : Bool) (nm : Str) : M Unit := if b then rtn () else rse nm
theorem re_req (b : Bool) (nm : Str) : RE (Sh.F_require [eB b, eS nm]) eU (reqT b nm) := fun R => by
  cases b
  · show SimR _ (.exc nm R) _
    exact Sh.require_f
  · exact ⟨_, Sh.require_t, rfl⟩
def wholeT (d : PyData) (a b : Int) : M Bool := grd (dataD d) (rtn (Sh.isWholeD d a b))
theorem re_whole (d : PyData) (a b : Int) : RE (Sh.F_is_whole [eA d, eI a, eI b]) eB (wholeT d a b) := fun R => by
  unfold wholeT grd
  split
  · rename_i h
    exact ⟨_, Sh.is_whole_eq h, rfl⟩
  · exact True.intro
def rowT (d : PyData) (a b : Int) : M Bool := grd (dataD d) (rtn (Sh.isRowD d a b))
theorem re_row (d : PyData) (a b : Int) : RE (Sh.F_is_row [eA d, eI a, eI b]) eB (rowT d a b) := fun R => by
  unfold rowT grd
  split
  · rename_i h
    exact ⟨_, Sh.is_row_eq h, rfl⟩
  · exact True.intro
def smallD (d : PyData) : Bool := match d with
  | .tuple xs => decide (xs.length ≤ 1000000)
  | _ => true
def wholesT (d : PyData) (n a b : Int) : M Bool := grd (dataD d && smallD d) (rtn (Sh.areWholesD d n a b))
theorem re_wholes (d : PyData) (n a b : Int) : RE (Sh.F_are_wholes [eA d, eI n, eI a, eI b]) eB (wholesT d n a b) := fun R => by
  unfold wholesT grd
  split
  · rename_i h
    rw [Bool.and_eq_true] at h
    exact ⟨_, Sh.are_wholes_eq h.1 fun xs e => by subst e; exact of_decide_eq_true h.2, rfl⟩
  · exact True.intro
/-- the next number below n -/
@[irreducible] def takenT (n : Int) : M Int := fun R => match Sh.F__law_taken [rowD, .int n] R with
  | .ok (.int v) R1 => .ok v R1
  | _ => .stuck
theorem re_taken (n : Int) : RE (Sh.F__law_taken [rowD, eI n]) eI (takenT n) := fun R => by
  unfold takenT
  show SimR (Sh.F__law_taken [rowD, .int n] R) _ _
  cases Sh.F__law_taken [rowD, .int n] R with
  | ok d R1 =>
    cases d with
    | int v => exact ⟨_, rfl, rfl⟩
    | _ => exact True.intro
  | exc nm R1 => exact True.intro
  | stuck => exact True.intro
/-- one of a list -/
def pickT (xs : List α) : M α := bnd (takenT (xs.length : Int)) fun i => atT xs i
theorem re_pick (xs : List α) : RE (Sh.F__law_pick [rowD, eL e xs]) e (pickT xs) := by
  have : Sh.F__law_pick [rowD, eL e xs] = fun R => (Sh.F__law_taken [rowD, eI (xs.length : Int)] R).bind fun v R1 => Ev.ofO (idxD (eL e xs) v) R1 := by
    funext R
    unfold Sh.F__law_pick Sh.den__law_pick
    simp [callF_def, eL, eI]
    cases Sh.F__law_taken [rowD, .int (xs.length : Int)] R with
    | ok d R1 =>
      simp only [bind_ok]
      cases idxD (.list (xs.map e)) d <;> rfl
    | _ => rfl
  rw [this]
  exact (re_taken _).ebind fun i => bo_idxL xs i
/-- whether two things are alike, as it is asked -/
@[irreducible] def alikeT (n : Nat) (x y : PyData) : M Bool := asB (rawM (Sh.F__law_alike n) [x, y])
theorem re_alike (n : Nat) (x y : PyData) : RE (Sh.F__law_alike n [eA x, eA y]) eB (alikeT n x y) := by unfold alikeT; exact re_asB re_raw
theorem alike_ok {n : Nat} {x : PyData} (h : Sh.plainD n x = true) : alikeT n x x = rtn true := by
  funext R
  unfold alikeT
  show (Sh.F__law_alike n [x, x] R).bind _ = _
  rw [Sh.alike_true n x R h]
  rfl
/-! ### what must come -/
/-- whatever is drawn, m ends with Q -/
def Wp (m : M α) (Q : α → Prop) : Prop := ∀ R, RowOk R → Ends (m R) (fun a R' => Q a ∧ RowOk R') FX
theorem wp_ret {a : α} {Q : α → Prop} (h : Q a) : Wp (rtn a) Q := fun R hR => ⟨h, hR⟩
theorem wp_bnd {m : M α} {f : α → M β} {Q : β → Prop} (h : Wp m fun a => Wp (f a) Q) : Wp (bnd m f) Q := fun R hR => Ends.step (h R hR) fun a R1 ⟨q, hR1⟩ => q R1 hR1
theorem Wp.mono {m : M α} {Q Q' : α → Prop} (h : Wp m Q) (k : ∀ a, Q a → Q' a) : Wp m Q' := fun R hR => (h R hR).mono (fun a R' ⟨q, r⟩ => ⟨k a q, r⟩) fun _ _ z => z
theorem wp_step {m : M α} {f : α → M β} {P : α → Prop} {Q : β → Prop} (h : Wp m P) (k : ∀ a, P a → Wp (f a) Q) : Wp (bnd m f) Q := wp_bnd (h.mono k)
theorem wp_taken {n : Int} (h0 : 0 < n) (h1 : n < 1073741824) : Wp (takenT n) fun v => 0 ≤ v ∧ v < n := fun R hR => by
  have q := Sh.taken_spec R n hR h0 h1
  unfold takenT
  cases e : Sh.F__law_taken [rowD, .int n] R with
  | ok d R1 =>
    rw [e] at q
    obtain ⟨v, rfl, a, b, r⟩ := q
    exact ⟨⟨a, b⟩, r⟩
  | exc nm R1 => rw [e] at q; exact q.elim
  | stuck => rw [e] at q; exact q.elim
theorem wp_pick {xs : List α} (h0 : xs ≠ []) (h1 : xs.length < 1073741824) : Wp (pickT xs) fun a => a ∈ xs := by
  have hl : 0 < xs.length := List.length_pos_iff.mpr h0
  refine wp_step (wp_taken (by omega) (by omega)) fun i ⟨a, b⟩ => ?_
  obtain ⟨x, e, m, _⟩ := Sh.atI_lt a b
  unfold atT
  rw [e]
  exact wp_ret m
theorem wp_for {g : α → σ → M σ} (I : List α → σ → Prop) {xs : List α} {s : σ} (h0 : I [] s) (hs : ∀ pre x suf s, xs = pre ++ x :: suf → I pre s → Wp (g x s) (I (pre ++ [x]))) : Wp (forT g xs s) (I xs) := by
  have : ∀ (suf pre : List α) (s : σ), xs = pre ++ suf → I pre s → Wp (forT g suf s) (I xs) := by
    intro suf
    induction suf with
    | nil => intro pre s e h; rw [List.append_nil] at e; rw [e]; exact wp_ret h
    | cons x suf ih =>
      intro pre s e h
      exact wp_step (hs pre x suf s e h) fun s' h' => ih (pre ++ [x]) s' (by rw [e]; simp) h'
  exact this xs [] s rfl h0
/-- a loop of turns that draw and never leave -/
theorem wp_forR {g : α → σ → M (Fw σ τ)} (I : List α → σ → Prop) {xs : List α} {s : σ} (h0 : I [] s) (hs : ∀ pre x suf s, xs = pre ++ x :: suf → I pre s → Wp (g x s) fun w => ∃ s', w = .nx s' ∧ I (pre ++ [x]) s') : Wp (forR g xs s) fun w => ∃ s', w = .nx s' ∧ I xs s' := by
  have : ∀ (suf pre : List α) (s : σ), xs = pre ++ suf → I pre s → Wp (forR g suf s) fun w => ∃ s', w = .nx s' ∧ I xs s' := by
    intro suf
    induction suf with
    | nil => intro pre s e h; rw [List.append_nil] at e; rw [e]; exact wp_ret ⟨s, rfl, h⟩
    | cons x suf ih =>
      intro pre s e h
      refine wp_step (hs pre x suf s e h) fun w ⟨s', e', h'⟩ => ?_
      subst e'
      exact ih (pre ++ [x]) s' (by rw [e]; simp) h'
  exact this xs [] s rfl h0
theorem for_eq {g : α → σ → M σ} (I : List α → σ → Prop) {xs : List α} {s : σ} (h0 : I [] s) (hs : ∀ pre x suf s, xs = pre ++ x :: suf → I pre s → ∃ s', g x s = rtn s' ∧ I (pre ++ [x]) s') : ∃ s', forT g xs s = rtn s' ∧ I xs s' := by
  have : ∀ (suf pre : List α) (s : σ), xs = pre ++ suf → I pre s → ∃ s', forT g suf s = rtn s' ∧ I xs s' := by
    intro suf
    induction suf with
    | nil => intro pre s e h; rw [List.append_nil] at e; exact ⟨s, rfl, by rw [e]; exact h⟩
    | cons x suf ih =>
      intro pre s e h
      obtain ⟨s', e1, h1⟩ := hs pre x suf s e h
      obtain ⟨s2, e2, h2⟩ := ih (pre ++ [x]) s' (by rw [e]; simp) h1
      refine ⟨s2, ?_, h2⟩
      show bnd (g x s) _ = _
      rw [e1, bnd_rtn, e2]
  exact this xs [] s rfl h0
/-- a loop whose states are told by what was seen -/
theorem for_st {g : α → σ → M σ} (S : List α → σ) {xs : List α} (hs : ∀ pre x suf, xs = pre ++ x :: suf → g x (S pre) = rtn (S (pre ++ [x]))) : forT g xs (S []) = rtn (S xs) := by
  obtain ⟨s', e, h⟩ := for_eq (fun pre s => s = S pre) (xs := xs) (s := S []) rfl fun pre x suf s e h => ⟨_, by rw [h]; exact hs pre x suf e, rfl⟩
  rw [e, h]
/-- a loop over range -/
theorem for_rng {g : Int → σ → M σ} (S : Nat → σ) {lo : Int} {n : Nat} (hs : ∀ k, k < n → g (lo + (k : Int)) (S k) = rtn (S (k + 1))) : forT g (rngI lo n) (S 0) = rtn (S n) := by
  have h := for_st (g := g) (fun pre => S pre.length) (xs := rngI lo n) fun pre x suf e => ?_
  · rw [show (rngI lo n).length = n from by simp [rngI]] at h
    exact h
  · have hl : pre.length < n := by
      have := congrArg List.length e
      simp [rngI] at this
      omega
    have hx : x = lo + (pre.length : Int) := by
      have h1 : (rngI lo n)[pre.length]? = some x := by rw [e]; simp
      unfold rngI at h1
      rw [List.getElem?_map, List.getElem?_range hl] at h1
      exact (Option.some.inj h1).symm
    rw [hx, List.length_append]
    exact hs _ hl
end
end Ty

/-! Ty: the law's end -/
namespace Ty
open PySem PySem.Spec Ev
theorem rg_turn {υ : Type} {t : Tgt} {body : DenS} {x : PyData} {ρ ρ' : Ev.Env} {m : M υ} {Ψ : υ → Fl → Prop} (h : t x ρ = some ρ') (k : RG (body ρ') m Ψ) : RG (turnF t body x ρ) m Ψ := by
  have : turnF t body x ρ = body ρ' := by
    funext R
    unfold turnF
    rw [h]
  rw [this]
  exact k
theorem case_ends {Fc : List PyData → Ev.Row → Res PyData} {m : M Bool} (r : RE (Fc [rowD]) eB m) (h : Wp m fun b => b = true) {R : Ev.Row} (hR : RowOk R) : Ends (Fc [rowD] R) (fun d R' => d = .bool true ∧ RowOk R') FX := by
  have q := r R
  have p := h R hR
  unfold SimR at q
  cases e : m R with
  | ok a R1 =>
    rw [e] at q p
    obtain ⟨b, q1, q2⟩ := q
    obtain ⟨p1, p2⟩ := p
    rw [q1]
    have p1 : a = true := p1
    subst p1
    exact ⟨q2, p2⟩
  | exc nm R1 => rw [e] at p; exact p.elim
  | stuck => rw [e] at p; exact p.elim
/-- the law: its turns -/
theorem law_done {Fc : List PyData → Ev.Row → Res PyData} {m : M Bool} (n : Nat) (hn : n ≤ 100) (r : RE (Fc [rowD]) eB m) (h : Wp m fun b => b = true) (ns : List Int) (z : Int) :
    ∃ R', (sSeq (sForM [] (lRange1 (lCons (dC (.int (n : Int))) lNil)) (gSet 2) (sIf (bNot (dTB (dCallF Fc (lCons (dVar 1) lNil)))) (sRet (dC (.bool false))) sNext)) (sRet (dC (.bool true)))) [none, some rowD, none] ⟨ns, 0, z, 0⟩ = .ok (.rt (.bool true)) R' := by
  have h0 : RowOk ⟨ns, 0, z, 0⟩ := Int.le_refl 0
  have : Ends ((sSeq (sForM [] (lRange1 (lCons (dC (.int (n : Int))) lNil)) (gSet 2) (sIf (bNot (dTB (dCallF Fc (lCons (dVar 1) lNil)))) (sRet (dC (.bool false))) sNext)) (sRet (dC (.bool true)))) [none, some rowD, none] ⟨ns, 0, z, 0⟩) (fun fl R' => fl = .rt (.bool true)) FX := by
    simp [rng1_s (j := (n : Int)) (by omega) (by omega)]
    refine Ends.step (for_range (lo := 0) (n := n) (fun k ρ R' => RowOk R' ∧ ∃ a, ρ = [none, some rowD, a]) ⟨h0, _, rfl⟩ fun k ρ R1 hk2 ⟨hR1, a, hρ⟩ => ?_) fun fl R2 ⟨ρ', e, h1, a, h2⟩ => ?_
    · subst hρ
      simp
      refine Ends.step (case_ends r h hR1) fun v R3 ⟨e, hR3⟩ => ?_
      subst e
      simp [hR3]
    · subst e h2
      simp
  cases e : (sSeq (sForM [] (lRange1 (lCons (dC (.int (n : Int))) lNil)) (gSet 2) (sIf (bNot (dTB (dCallF Fc (lCons (dVar 1) lNil)))) (sRet (dC (.bool false))) sNext)) (sRet (dC (.bool true)))) [none, some rowD, none] ⟨ns, 0, z, 0⟩ with
  | ok a R' => rw [e] at this; exact ⟨R', by rw [show a = _ from this]⟩
  | exc nm R' => rw [e] at this; exact this.elim
  | stuck => rw [e] at this; exact this.elim
section
variable {α β γ δ τ υ : Type} {ρ : Ev.Env} {e : α → PyData} {e1 : α → PyData} {e2 : β → PyData} {e3 : γ → PyData} {e4 : δ → PyData} {er : τ → PyData} {d d1 d2 d3 d4 : Den} {m : M α} {rest : DenS} {Ψ : υ → Fl → Prop} {f : α → M υ}
theorem se_fn {j : Nat} {den : DenS} {ds : List PyData} {m : M τ} (ρ0 : Ev.Env) (h0 : ds.map some ++ List.replicate j none = ρ0) (h : RG (den ρ0) m (PT er)) : RE (callF j den ds) er m := re_fn (by rw [h0]; exact h)
theorem se_fnN {j : Nat} {den : DenS} {ds : List PyData} {m : M Unit} (ρ0 : Ev.Env) (h0 : ds.map some ++ List.replicate j none = ρ0) (h : RG (den ρ0) m (PN (fun _ _ => True))) : RE (callF j den ds) eU (bnd m fun (_ : Unit) => rtn ()) := re_fnN (by rw [h0]; exact h)
theorem sg_asgM {ks : List Nat} {i : Nat} (g : α → Ev.Env) (h : RE (d (wipeE ρ ks)) e m) (hg : ∀ a, ρ.set i (some (e a)) = g a) (k : ∀ a, RG (rest (g a)) (f a) Ψ) : RG (sSeq (sAsgM ks (gSet i) d) rest ρ) (bnd m f) Ψ := rg_asgM h fun a => by rw [hg a]; exact k a
theorem sg_asg {i : Nat} (g : α → Ev.Env) (p : PuE e) (h : RE (d ρ) e m) (hg : ∀ a, ρ.set i (some (e a)) = g a) (k : ∀ a, RG (rest (g a)) (f a) Ψ) : RG (sSeq (sAsg (gSet i) d) rest ρ) (bnd m f) Ψ := rg_asg p h fun a => by rw [hg a]; exact k a
theorem sg_newM {ks : List Nat} {i : Nat} (g : α → Ev.Env) (h : RE (d (wipeE ρ ks)) e m) (hi : decide (i < ρ.length) = true) (hg : ∀ a, ρ.set i (some (e a)) = g a) (k : ∀ a, RG (rest (g a)) (f a) Ψ) : RG (sSeq (sNewM ks i d) rest ρ) (bnd m f) Ψ := rg_newM h (of_decide_eq_true hi) fun a => by rw [hg a]; exact k a
theorem sg_new {i : Nat} (g : α → Ev.Env) (p : PiE e) (h : RE (d ρ) e m) (hi : decide (i < ρ.length) = true) (hg : ∀ a, ρ.set i (some (e a)) = g a) (k : ∀ a, RG (rest (g a)) (f a) Ψ) : RG (sSeq (sNew i d) rest ρ) (bnd m f) Ψ := rg_new p h (of_decide_eq_true hi) fun a => by rw [hg a]; exact k a
theorem sg_par2 {kM : List Nat} {i j : Nat} {m1 : M α} {m2 : M β} {f : α → β → M υ} (g : α → β → Ev.Env) (hi : ([i, j] : List Nat).all (fun i => decide (i < ρ.length)) = true) (h1 : RE (d1 (wipeE ρ kM)) e1 m1) (h2 : RE (d2 (wipeE ρ kM)) e2 m2)
    (hg : ∀ a b, (ρ.set i (some (e1 a))).set j (some (e2 b)) = g a b) (k : ∀ a b, RG (rest (g a b)) (f a b) Ψ) : RG (sSeq (sPar kM [i, j] (lCons d1 (lCons d2 lNil))) rest ρ) (bnd m1 fun a => bnd m2 fun b => f a b) Ψ := rg_par2 hi h1 h2 fun a b => by rw [hg a b]; exact k a b
theorem sg_par3 {kM : List Nat} {i j l : Nat} {m1 : M α} {m2 : M β} {m3 : M γ} {f : α → β → γ → M υ} (g : α → β → γ → Ev.Env) (hi : ([i, j, l] : List Nat).all (fun i => decide (i < ρ.length)) = true) (h1 : RE (d1 (wipeE ρ kM)) e1 m1) (h2 : RE (d2 (wipeE ρ kM)) e2 m2) (h3 : RE (d3 (wipeE ρ kM)) e3 m3)
    (hg : ∀ a b c, ((ρ.set i (some (e1 a))).set j (some (e2 b))).set l (some (e3 c)) = g a b c) (k : ∀ a b c, RG (rest (g a b c)) (f a b c) Ψ) : RG (sSeq (sPar kM [i, j, l] (lCons d1 (lCons d2 (lCons d3 lNil)))) rest ρ) (bnd m1 fun a => bnd m2 fun b => bnd m3 fun c => f a b c) Ψ := rg_par3 hi h1 h2 h3 fun a b c => by rw [hg a b c]; exact k a b c
theorem sg_par4 {kM : List Nat} {i j l q : Nat} {m1 : M α} {m2 : M β} {m3 : M γ} {m4 : M δ} {f : α → β → γ → δ → M υ} (g : α → β → γ → δ → Ev.Env) (hi : ([i, j, l, q] : List Nat).all (fun i => decide (i < ρ.length)) = true) (h1 : RE (d1 (wipeE ρ kM)) e1 m1) (h2 : RE (d2 (wipeE ρ kM)) e2 m2) (h3 : RE (d3 (wipeE ρ kM)) e3 m3) (h4 : RE (d4 (wipeE ρ kM)) e4 m4)
    (hg : ∀ a b c u, (((ρ.set i (some (e1 a))).set j (some (e2 b))).set l (some (e3 c))).set q (some (e4 u)) = g a b c u) (k : ∀ a b c u, RG (rest (g a b c u)) (f a b c u) Ψ) : RG (sSeq (sPar kM [i, j, l, q] (lCons d1 (lCons d2 (lCons d3 (lCons d4 lNil))))) rest ρ) (bnd m1 fun a => bnd m2 fun b => bnd m3 fun c => bnd m4 fun u => f a b c u) Ψ := rg_par4 hi h1 h2 h3 h4 fun a b c u => by rw [hg a b c u]; exact k a b c u
theorem sg_app {i : Nat} {f : List α → M υ} (xs : List α) (g : List α → Ev.Env) (hl : ρ[i]?.join = some (eL e xs)) (p : PuE e) (h : RE (d ρ) e m) (hg : ∀ ys : List α, ρ.set i (some (eL e ys)) = g ys) (k : ∀ ys : List α, RG (rest (g ys)) (f ys) Ψ) : RG (sSeq (sApp i d) rest ρ) (bnd m fun a => bnd (appT xs a) f) Ψ := rg_app xs hl p h fun ys => by rw [hg ys]; exact k ys
theorem sg_setI {i : Nat} {dk : Den} {mk : M Int} {f : List α → M υ} (xs : List α) (g : List α → Ev.Env) (hl : ρ[i]?.join = some (eL e xs)) (p : PuE e) (h : RE (d ρ) e m) (hk : RE (dk ρ) eI mk) (hg : ∀ ys : List α, ρ.set i (some (eL e ys)) = g ys) (k : ∀ ys : List α, RG (rest (g ys)) (f ys) Ψ) : RG (sSeq (sSetI i dk d) rest ρ) (bnd m fun a => bnd mk fun j => bnd (setT xs j a) f) Ψ := rg_setI xs hl p h hk fun ys => by rw [hg ys]; exact k ys
theorem sg_augI {i : Nat} {g : Int → Int → Int} {dk : Den} {mk m : M Int} {f : List Int → M υ} (xs : List Int) (g' : List Int → Ev.Env) (hl : ρ[i]?.join = some (eL eI xs)) (h : RE (d ρ) eI m) (hk : RE (dk ρ) eI mk) (hg : ∀ ys : List Int, ρ.set i (some (eL eI ys)) = g' ys) (k : ∀ ys : List Int, RG (rest (g' ys)) (f ys) Ψ) : RG (sSeq (sAugI i g dk d) rest ρ) (bnd mk fun j => bnd (augT g xs j) fun q => bnd m fun a => f (xs.set q.2 (g q.1 a))) Ψ := rg_augI xs hl h hk fun ys => by rw [hg ys]; exact k ys
theorem sg_aug {i : Nat} {g : Int → Int → Int} {m : M Int} {f : Int → M υ} (x : Int) (g' : Int → Ev.Env) (hl : ρ[i]?.join = some (eI x)) (h : RE (d ρ) eI m) (hg : ∀ y : Int, ρ.set i (some (eI y)) = g' y) (k : ∀ y : Int, RG (rest (g' y)) (f y) Ψ) : RG (sSeq (sAug i g d) rest ρ) (bnd m fun a => f (g x a)) Ψ := rg_aug x hl h fun y => by rw [hg y]; exact k y
end
end Ty

/-! Ty: plain facts for the laws: orders, indices, loops -/
namespace Ty
open PySem PySem.Spec Ev
section
variable {α β γ δ σ τ υ : Type} {e : α → PyData} {e1 : α → PyData} {e2 : β → PyData} {e3 : γ → PyData}
/-! ### orders -/
structure LoE [DecidableEq α] (e : α → PyData) : Prop where
  al : ∀ a b, PySem.W.alike (e a) (e b) = true
  eq : EqE e
  irr : ∀ a, lt e a a = false
  tra : ∀ a b c, lt e a b = true → lt e b c = true → lt e a c = true
  tri : ∀ a b, lt e a b = false → lt e b a = false → a = b
theorem lt_irr (a : α) : lt e a a = false := PyProof.Rows.lex_irrefl _
theorem lt_tra (a b c : α) (h : lt e a b = true) (k : lt e b c = true) : lt e a c = true := PyProof.Rows.lex_trans _ _ _ h k
theorem lo_I : LoE eI where
  al _ _ := by simp [eI, PySem.W.alike]
  eq := eq_I
  irr := lt_irr
  tra := lt_tra
  tri a b h k := by
    rw [lt_I, decide_eq_false_iff_not] at h k
    omega
theorem alikeAll_map (h : ∀ a b, PySem.W.alike (e a) (e b) = true) : ∀ xs ys : List α, PySem.W.alikeAll (xs.map e) (ys.map e) = true
  | [], _ => by simp [PySem.W.alikeAll]
  | _ :: _, [] => by simp [PySem.W.alikeAll]
  | a :: xs, b :: ys => by rw [List.map_cons, List.map_cons, PySem.W.alikeAll, h, alikeAll_map h xs ys]; rfl
theorem lt_nil [DecidableEq α] {xs : List α} : lt (eT e) xs [] = false := by
  cases xs with
  | nil => exact lt_irr []
  | cons a xs =>
    unfold lt eT
    rw [PySem.W.dataLt_tuple, List.map_cons, List.map_nil, PySem.W.keyToksAll, PySem.W.keyToksAll]
    rfl
theorem lt_cons [DecidableEq α] (L : LoE e) {a b : α} {xs ys : List α} : lt (eT e) (a :: xs) (b :: ys) = if a = b then lt (eT e) xs ys else lt e a b := by
  unfold lt eT
  rw [PySem.W.dataLt_tuple, List.map_cons, List.map_cons, PySem.W.dataLt_cons (L.al a b), L.eq, PySem.W.dataLt_tuple]
  by_cases h : a = b <;> simp [h]
theorem lt_nilc [DecidableEq α] {b : α} {ys : List α} : lt (eT e) [] (b :: ys) = true := by
  unfold lt eT
  rw [PySem.W.dataLt_tuple, List.map_cons, List.map_nil, PySem.W.keyToksAll, PySem.W.keyToksAll]
  rfl
theorem lo_T [DecidableEq α] (L : LoE e) : LoE (eT e) where
  al xs ys := by unfold eT; rw [PySem.W.alike]; exact alikeAll_map L.al xs ys
  eq := eq_T L.eq
  irr := lt_irr
  tra := lt_tra
  tri xs := by
    induction xs with
    | nil =>
      intro ys h k
      cases ys with
      | nil => rfl
      | cons b ys => rw [lt_nilc] at h; cases h
    | cons a xs ih =>
      intro ys h k
      cases ys with
      | nil => rw [lt_nilc] at k; cases k
      | cons b ys =>
        rw [lt_cons L] at h k
        by_cases e : a = b
        · subst e
          rw [if_pos rfl] at h k
          rw [ih ys h k]
        · rw [if_neg e] at h
          rw [if_neg (Ne.symm e)] at k
          exact absurd (L.tri a b h k) e
theorem lt_P2 [DecidableEq α] [DecidableEq β] (L1 : LoE e1) (L2 : LoE e2) (x y : α × β) : lt (eP2 e1 e2) x y = if x.1 = y.1 then lt e2 x.2 y.2 else lt e1 x.1 y.1 := by
  have h := PySem.W.dataLt_pair (x := e1 x.1) (y := e2 x.2) (x' := e1 y.1) (y' := e2 y.2) (L1.al _ _) (L2.al _ _)
  unfold lt eP2
  rw [h, L1.eq, L2.eq]
  by_cases c : x.1 = y.1
  · simp only [c, decide_true, if_true]
    by_cases c2 : x.2 = y.2
    · simp only [c2, decide_true, if_true]
      exact (PySem.W.dataLt_self _).symm
    · simp [c2]
  · simp [c]
theorem lo_P2 [DecidableEq α] [DecidableEq β] (L1 : LoE e1) (L2 : LoE e2) : LoE (eP2 e1 e2) where
  al x y := by unfold eP2; simp [PySem.W.alike, PySem.W.alikeAll, L1.al, L2.al]
  eq := eq_P2 L1.eq L2.eq
  irr := lt_irr
  tra := lt_tra
  tri x y h k := by
    rw [lt_P2 L1 L2] at h k
    by_cases c : x.1 = y.1
    · rw [if_pos c] at h
      rw [if_pos c.symm] at k
      exact Prod.ext c (L2.tri _ _ h k)
    · rw [if_neg c] at h
      rw [if_neg (Ne.symm c)] at k
      exact absurd (L1.tri _ _ h k) c
theorem lt_P3 [DecidableEq α] [DecidableEq β] [DecidableEq γ] (L1 : LoE e1) (L2 : LoE e2) (L3 : LoE e3) (x y : α × β × γ) : lt (eP3 e1 e2 e3) x y = if x.1 = y.1 then (if x.2.1 = y.2.1 then lt e3 x.2.2 y.2.2 else lt e2 x.2.1 y.2.1) else lt e1 x.1 y.1 := by
  unfold lt eP3
  rw [PySem.W.dataLt_tuple, PySem.W.dataLt_cons (L1.al _ _), PySem.W.dataLt_cons (L2.al _ _), PySem.W.dataLt_cons (L3.al _ _), L1.eq, L2.eq, L3.eq]
  have e : PyProof.Rows.lexLt PyProof.Rows.itemOrd (PySem.W.keyToksAll []) (PySem.W.keyToksAll []) = false := PyProof.Rows.lex_irrefl _
  by_cases c : x.1 = y.1
  · by_cases c2 : x.2.1 = y.2.1
    · by_cases c3 : x.2.2 = y.2.2
      · simp [c, c2, c3, e, PySem.W.dataLt_self]
      · simp [c, c2, c3]
    · simp [c, c2]
  · simp [c]
theorem lo_P3 [DecidableEq α] [DecidableEq β] [DecidableEq γ] (L1 : LoE e1) (L2 : LoE e2) (L3 : LoE e3) : LoE (eP3 e1 e2 e3) where
  al x y := by unfold eP3; simp [PySem.W.alike, PySem.W.alikeAll, L1.al, L2.al, L3.al]
  eq := eq_P3 L1.eq L2.eq L3.eq
  irr := lt_irr
  tra := lt_tra
  tri x y h k := by
    rw [lt_P3 L1 L2 L3] at h k
    by_cases c : x.1 = y.1
    · rw [if_pos c] at h
      rw [if_pos c.symm] at k
      by_cases c2 : x.2.1 = y.2.1
      · rw [if_pos c2] at h
        rw [if_pos c2.symm] at k
        exact Prod.ext c (Prod.ext c2 (L3.tri _ _ h k))
      · rw [if_neg c2] at h
        rw [if_neg (Ne.symm c2)] at k
        exact absurd (L2.tri _ _ h k) c2
    · rw [if_neg c] at h
      rw [if_neg (Ne.symm c)] at k
      exact absurd (L1.tri _ _ h k) c
/-- not above both -/
theorem LoE.le_tra [DecidableEq α] (L : LoE e) {a b c : α} (h : lt e b a = false) (k : lt e c b = false) : lt e c a = false := by
  cases q : lt e c a with
  | false => rfl
  | true =>
    cases p : lt e a b with
    | true => rw [L.tra _ _ _ q p] at k; cases k
    | false =>
      have := L.tri _ _ p h
      subst this
      rw [k] at q
      cases q
theorem fold_min [DecidableEq α] (L : LoE e) (x : α) (xs : List α) : xs.foldl (fun a y => if lt e y a then y else a) x ∈ x :: xs ∧ ∀ y ∈ x :: xs, lt e y (xs.foldl (fun a y => if lt e y a then y else a) x) = false := by
  induction xs generalizing x with
  | nil => exact ⟨List.mem_cons_self, fun y hy => by rw [List.mem_singleton.mp hy]; exact L.irr x⟩
  | cons z xs ih =>
    rw [List.foldl_cons]
    obtain ⟨h1, h2⟩ := ih (if lt e z x then z else x)
    have hx := h2 _ List.mem_cons_self
    refine ⟨?_, fun y hy => ?_⟩
    · rcases List.mem_cons.mp h1 with h | h
      · rw [h]; split <;> simp
      · simp [h]
    · rcases List.mem_cons.mp hy with h | h
      · subst h
        cases c : lt e z y with
        | false => rw [c] at hx; exact hx
        | true =>
          rw [c] at hx
          refine L.le_tra hx ?_
          cases q : lt e y z with
          | false => simpa using q
          | true => have := L.tra _ _ _ q c; rw [L.irr] at this; cases this
      · rcases List.mem_cons.mp h with h | h
        · subst h
          cases c : lt e y x with
          | true => rw [c] at hx; exact hx
          | false => rw [c] at hx; exact L.le_tra hx c
        · exact h2 y (List.mem_cons_of_mem _ h)
theorem fold_max [DecidableEq α] (L : LoE e) (x : α) (xs : List α) : xs.foldl (fun a y => if lt e a y then y else a) x ∈ x :: xs ∧ ∀ y ∈ x :: xs, lt e (xs.foldl (fun a y => if lt e a y then y else a) x) y = false := by
  induction xs generalizing x with
  | nil => exact ⟨List.mem_cons_self, fun y hy => by rw [List.mem_singleton.mp hy]; exact L.irr x⟩
  | cons z xs ih =>
    rw [List.foldl_cons]
    obtain ⟨h1, h2⟩ := ih (if lt e x z then z else x)
    have hx := h2 _ List.mem_cons_self
    refine ⟨?_, fun y hy => ?_⟩
    · rcases List.mem_cons.mp h1 with h | h
      · rw [h]; split <;> simp
      · simp [h]
    · rcases List.mem_cons.mp hy with h | h
      · subst h
        cases c : lt e y z with
        | false => rw [c] at hx; exact hx
        | true =>
          rw [c] at hx
          refine L.le_tra ?_ hx
          cases q : lt e z y with
          | false => simpa using q
          | true => have := L.tra _ _ _ q c; rw [L.irr] at this; cases this
      · rcases List.mem_cons.mp h with h | h
        · subst h
          cases c : lt e x y with
          | true => rw [c] at hx; exact hx
          | false => rw [c] at hx; exact L.le_tra c hx
        · exact h2 y (List.mem_cons_of_mem _ h)
theorem min_ok [DecidableEq α] (L : LoE e) {xs : List α} (h : xs ≠ []) : ∃ v, minE e xs = rtn v ∧ v ∈ xs ∧ ∀ x ∈ xs, lt e x v = false := by
  cases xs with
  | nil => exact absurd rfl h
  | cons x xs => exact ⟨_, rfl, fold_min L x xs⟩
theorem max_ok [DecidableEq α] (L : LoE e) {xs : List α} (h : xs ≠ []) : ∃ v, maxE e xs = rtn v ∧ v ∈ xs ∧ ∀ x ∈ xs, lt e v x = false := by
  cases xs with
  | nil => exact absurd rfl h
  | cons x xs => exact ⟨_, rfl, fold_max L x xs⟩
theorem min_is [DecidableEq α] (L : LoE e) {xs : List α} {v : α} (h : v ∈ xs) (k : ∀ x ∈ xs, lt e x v = false) : minE e xs = rtn v := by
  obtain ⟨w, h1, h2, h3⟩ := min_ok L (List.ne_nil_of_mem h)
  rw [h1, L.tri w v (k w h2) (h3 v h)]
theorem max_is [DecidableEq α] (L : LoE e) {xs : List α} {v : α} (h : v ∈ xs) (k : ∀ x ∈ xs, lt e v x = false) : maxE e xs = rtn v := by
  obtain ⟨w, h1, h2, h3⟩ := max_ok L (List.ne_nil_of_mem h)
  rw [h1, L.tri w v (h3 v h) (k w h2)]
theorem minI_ok {xs : List Int} (h : xs ≠ []) : ∃ v, minE eI xs = rtn v ∧ v ∈ xs ∧ ∀ x ∈ xs, v ≤ x := by
  obtain ⟨v, h1, h2, h3⟩ := min_ok lo_I h
  exact ⟨v, h1, h2, fun x hx => by have := h3 x hx; rw [lt_I, decide_eq_false_iff_not] at this; omega⟩
theorem maxI_ok {xs : List Int} (h : xs ≠ []) : ∃ v, maxE eI xs = rtn v ∧ v ∈ xs ∧ ∀ x ∈ xs, x ≤ v := by
  obtain ⟨v, h1, h2, h3⟩ := max_ok lo_I h
  exact ⟨v, h1, h2, fun x hx => by have := h3 x hx; rw [lt_I, decide_eq_false_iff_not] at this; omega⟩
theorem minI_is {xs : List Int} {v : Int} (h : v ∈ xs) (k : ∀ x ∈ xs, v ≤ x) : minE eI xs = rtn v := min_is lo_I h fun x hx => by rw [lt_I, decide_eq_false_iff_not]; have := k x hx; omega
theorem maxI_is {xs : List Int} {v : Int} (h : v ∈ xs) (k : ∀ x ∈ xs, x ≤ v) : maxE eI xs = rtn v := max_is lo_I h fun x hx => by rw [lt_I, decide_eq_false_iff_not]; have := k x hx; omega
theorem sort_pw [DecidableEq α] (L : LoE e) (xs : List α) : (xs.mergeSort fun a b => !lt e b a).Pairwise fun a b => lt e b a = false := by
  have := List.pairwise_mergeSort (le := fun a b => !lt e b a) (fun a b c h k => by
    simp only [Bool.not_eq_true'] at h k ⊢
    exact L.le_tra h k) (fun a b => by
    cases h : lt e b a with
    | false => rfl
    | true =>
      cases k : lt e a b with
      | false => rfl
      | true => have := L.tra _ _ _ h k; rw [L.irr] at this; cases this) xs
  exact this.imp fun h => by simpa using h
theorem sort_mem [DecidableEq α] {xs : List α} {a : α} : a ∈ (xs.mergeSort fun a b => !lt e b a) ↔ a ∈ xs := List.mem_mergeSort
theorem sortI_ok {xs : List Int} (h : xs.length ≤ 1000000) : ∃ ys, sortE eI xs = rtn ys ∧ ys.Perm xs ∧ ys.Pairwise (· ≤ ·) := by
  refine ⟨_, sort_ok (fun _ => rfl) h, List.mergeSort_perm _ _, ?_⟩
  exact (sort_pw lo_I xs).imp fun h => by rw [lt_I, decide_eq_false_iff_not] at h; omega
/-! ### indices -/
def ga [Inhabited α] (xs : List α) (i : Int) : α := xs.getD i.toNat default
theorem at_ga [Inhabited α] {xs : List α} {i : Int} (h0 : 0 ≤ i) (h1 : i < xs.length) : atT xs i = rtn (ga xs i) := at_ok h0 (by
  have : i.toNat < xs.length := by omega
  unfold ga
  rw [List.getD_eq_getElem?_getD, List.getElem?_eq_getElem this]
  rfl)
theorem ga_nat [Inhabited α] {xs : List α} {n : Nat} (h : n < xs.length) : ga xs (n : Int) = xs[n] := by
  unfold ga
  rw [Int.toNat_natCast, List.getD_eq_getElem?_getD, List.getElem?_eq_getElem h]
  rfl
theorem ga_mem [Inhabited α] {xs : List α} {i : Int} (h0 : 0 ≤ i) (h1 : i < xs.length) : ga xs i ∈ xs := by
  have : i.toNat < xs.length := by omega
  unfold ga
  rw [List.getD_eq_getElem?_getD, List.getElem?_eq_getElem this]
  exact List.getElem_mem _
theorem ga_set [Inhabited α] {xs : List α} {i j : Int} {a : α} (h0 : 0 ≤ i) (h1 : i < xs.length) (hj : 0 ≤ j) : ga (xs.set i.toNat a) j = if j = i then a else ga xs j := by
  unfold ga
  rw [List.getD_eq_getElem?_getD, List.getD_eq_getElem?_getD, List.getElem?_set]
  by_cases h : j = i
  · subst h
    rw [if_pos rfl, if_pos rfl, if_pos (by omega)]
    rfl
  · rw [if_neg h, if_neg (by omega)]
theorem set_ga {xs : List α} {i : Int} {a : α} (h0 : 0 ≤ i) (h1 : i < xs.length) : setT xs i a = rtn (xs.set i.toNat a) := by
  have h := set_ok (xs := xs) (n := i.toNat) (a := a) (by omega)
  rwa [Int.toNat_of_nonneg h0] at h
theorem ga_drop [Inhabited α] {xs : List α} {n : Nat} {i : Int} (h : 0 ≤ i) : ga (xs.drop n) i = ga xs ((n : Int) + i) := by
  unfold ga
  rw [List.getD_eq_getElem?_getD, List.getD_eq_getElem?_getD, List.getElem?_drop, show ((n : Int) + i).toNat = n + i.toNat from by omega]
theorem ga_map [Inhabited α] [Inhabited β] {xs : List α} {f : α → β} {i : Int} (h0 : 0 ≤ i) (h1 : i < xs.length) : ga (xs.map f) i = f (ga xs i) := by
  have : i.toNat < xs.length := by omega
  unfold ga
  rw [List.getD_eq_getElem?_getD, List.getD_eq_getElem?_getD, List.getElem?_map, List.getElem?_eq_getElem this]
  rfl
theorem ga_cons0 [Inhabited α] {x : α} {xs : List α} : ga (x :: xs) 0 = x := rfl
theorem ga_consS [Inhabited α] {x : α} {xs : List α} {i : Int} (h : 0 < i) : ga (x :: xs) i = ga xs (i - 1) := by
  unfold ga
  obtain ⟨n, rfl⟩ : ∃ n : Nat, i = (n : Int) + 1 := ⟨(i - 1).toNat, by omega⟩
  rw [show ((n : Int) + 1).toNat = n + 1 from by omega, show ((n : Int) + 1 - 1).toNat = n from by omega]
  rfl
theorem ga_rep [Inhabited α] {n : Nat} {a : α} {i : Int} (h0 : 0 ≤ i) (h1 : i < n) : ga (List.replicate n a) i = a := by
  unfold ga
  rw [List.getD_eq_getElem?_getD, List.getElem?_replicate, if_pos (by omega)]
  rfl
theorem ga_ext [Inhabited α] {xs ys : List α} (h : xs.length = ys.length) (k : ∀ i : Int, 0 ≤ i → i < xs.length → ga xs i = ga ys i) : xs = ys := by
  refine List.ext_getElem h fun n h1 h2 => ?_
  have := k (n : Int) (by omega) (by omega)
  rwa [ga_nat h1, ga_nat h2] at this
theorem at_last [Inhabited α] {xs : List α} (h : xs ≠ []) : atT xs (-1) = rtn (ga xs (xs.length - 1)) := by
  have hl : 0 < xs.length := List.length_pos_iff.mpr h
  refine at_neg (n := 1) (by omega) (by omega) ?_
  unfold ga
  rw [List.getD_eq_getElem?_getD, show ((xs.length : Int) - 1).toNat = xs.length - 1 from by omega, List.getElem?_eq_getElem (by omega)]
  rfl
theorem mem_ga [Inhabited α] {xs : List α} {a : α} (h : a ∈ xs) : ∃ i : Int, 0 ≤ i ∧ i < xs.length ∧ ga xs i = a := by
  obtain ⟨n, hn, e⟩ := List.getElem_of_mem h
  exact ⟨n, by omega, by omega, by rw [ga_nat hn, e]⟩
theorem mem_rngI {lo x : Int} {n : Nat} : x ∈ rngI lo n ↔ lo ≤ x ∧ x < lo + n := by
  unfold rngI
  rw [List.mem_map]
  constructor
  · rintro ⟨k, hk, rfl⟩
    have := List.mem_range.mp hk
    omega
  · rintro ⟨h1, h2⟩
    exact ⟨(x - lo).toNat, List.mem_range.mpr (by omega), by omega⟩
theorem len_rngI {lo : Int} {n : Nat} : (rngI lo n).length = n := by simp [rngI]
theorem rngI_zero {lo : Int} : rngI lo 0 = [] := rfl
theorem rngI_succ {lo : Int} {n : Nat} : rngI lo (n + 1) = lo :: rngI (lo + 1) n := by
  unfold rngI
  rw [List.range_succ_eq_map, List.map_cons, List.map_map]
  congr 1
  · omega
  · apply List.map_congr_left
    intro k _
    show lo + ((k + 1 : Nat) : Int) = lo + 1 + (k : Int)
    omega
theorem rngI_last {lo : Int} {n : Nat} : rngI lo (n + 1) = rngI lo n ++ [lo + n] := by
  unfold rngI
  rw [List.range_succ, List.map_append]
  rfl
theorem ga_rngI {lo : Int} {n : Nat} {i : Int} (h0 : 0 ≤ i) (h1 : i < n) : ga (rngI lo n) i = lo + i := by
  have := ga_map (xs := List.range n) (f := fun k : Nat => lo + (k : Int)) h0 (by simpa using h1)
  unfold rngI
  rw [this]
  unfold ga
  rw [List.getD_eq_getElem?_getD, List.getElem?_range (by omega)]
  simp
  omega
theorem rngI_shift {lo d : Int} {n : Nat} : rngI (lo + d) n = (rngI lo n).map (· + d) := by
  unfold rngI
  rw [List.map_map]
  refine List.map_congr_left fun k _ => ?_
  show lo + d + (k : Int) = lo + (k : Int) + d
  omega
theorem rngI_add {lo : Int} {m n : Nat} : rngI lo (m + n) = rngI lo m ++ rngI (lo + m) n := by
  induction m generalizing lo with
  | zero => simp [rngI]
  | succ m ih =>
    rw [show m + 1 + n = (m + n) + 1 from by omega, rngI_succ, rngI_succ, ih, List.cons_append, show lo + 1 + (m : Int) = lo + ((m + 1 : Nat) : Int) from by omega]
theorem ga_take [Inhabited α] {xs : List α} {n : Nat} {i : Int} (h0 : 0 ≤ i) (h : i < n) : ga (xs.take n) i = ga xs i := by
  unfold ga
  rw [List.getD_eq_getElem?_getD, List.getD_eq_getElem?_getD, List.getElem?_take, if_pos (by omega)]
theorem find_congr {p q : α → Bool} : ∀ {xs : List α}, (∀ x ∈ xs, p x = q x) → xs.find? p = xs.find? q
  | [], _ => rfl
  | x :: xs, h => by
    rw [List.find?_cons, List.find?_cons, h x List.mem_cons_self, find_congr fun y hy => h y (List.mem_cons_of_mem _ hy)]
theorem for_app {g : α → σ → M σ} : ∀ {xs ys : List α} {s : σ}, forT g (xs ++ ys) s = bnd (forT g xs s) fun s' => forT g ys s'
  | [], ys, s => rfl
  | x :: xs, ys, s => by
    show bnd (g x s) (fun s' => forT g (xs ++ ys) s') = bnd (bnd (g x s) fun s' => forT g xs s') _
    rw [bnd_bnd]
    congr 1
    funext s'
    exact for_app
theorem rngI_pw {lo : Int} {n : Nat} : (rngI lo n).Pairwise (· < ·) := by
  induction n generalizing lo with
  | zero => exact List.Pairwise.nil
  | succ n ih =>
    rw [rngI_succ, List.pairwise_cons]
    exact ⟨fun x hx => by have := mem_rngI.mp hx; omega, ih⟩
/-- the last of a rising list -/
theorem last_max {xs : List Int} (h : xs.Pairwise (· < ·)) {x : Int} (hx : x ∈ xs) : x ≤ ga xs (xs.length - 1) := by
  obtain ⟨n, hn, e⟩ := List.getElem_of_mem hx
  rw [show (xs.length : Int) - 1 = ((xs.length - 1 : Nat) : Int) from by omega, ga_nat (by omega), ← e]
  by_cases c : n = xs.length - 1
  · subst c; exact Int.le_refl _
  · exact Int.le_of_lt (List.pairwise_iff_getElem.mp h n (xs.length - 1) hn (by omega) (by omega))
theorem cut_dropI {xs : List α} {i : Int} (h : 0 ≤ i) : cutL xs (some i) none = xs.drop i.toNat := by
  have := cut_drop xs i.toNat
  rwa [Int.toNat_of_nonneg h] at this
theorem cut_takeI {xs : List α} {i : Int} (h : 0 ≤ i) : cutL xs none (some i) = xs.take i.toNat := by
  have := cut_take xs i.toNat
  rwa [Int.toNat_of_nonneg h] at this
theorem cut_mid [Inhabited α] {xs : List α} {i j : Int} (h : 0 ≤ i) (h1 : i ≤ j) (h2 : j ≤ xs.length) : cutL xs (some i) (some j) = (rngI i (j - i).toNat).map (ga xs) := by
  have e : cutL xs (some i) (some j) = (xs.drop i.toNat).take (j - i).toNat := by
    show (xs.drop (if i < 0 then _ else min i.toNat xs.length)).take ((if j < 0 then _ else min j.toNat xs.length) - (if i < 0 then _ else min i.toNat xs.length)) = _
    rw [if_neg (by omega), if_neg (by omega), show min i.toNat xs.length = i.toNat from by omega, show min j.toNat xs.length - i.toNat = (j - i).toNat from by omega]
  rw [e]
  refine ga_ext (by simp [len_rngI]; omega) fun k h3 h4 => ?_
  simp only [List.length_take, List.length_drop] at h4
  rw [ga_map h3 (by rw [len_rngI]; omega), ga_rngI h3 (by omega)]
  unfold ga
  rw [List.getD_eq_getElem?_getD, List.getD_eq_getElem?_getD, List.getElem?_take, if_pos (by omega), List.getElem?_drop, show (i + k).toNat = i.toNat + k.toNat from by omega]
/-- rising step by step -/
theorem pw_step {xs : List Int} (h : ∀ i : Int, 0 ≤ i → i + 1 < xs.length → ga xs i < ga xs (i + 1)) : xs.Pairwise (· < ·) := by
  induction xs with
  | nil => exact List.Pairwise.nil
  | cons x xs ih =>
    have i1 : xs.Pairwise (· < ·) := ih fun i h0 h1 => by
      have := h (i + 1) (by omega) (by simp only [List.length_cons]; omega)
      rwa [ga_consS (by omega), ga_consS (by omega), show i + 1 - 1 = i from by omega, show i + 1 + 1 - 1 = i + 1 from by omega] at this
    refine List.pairwise_cons.mpr ⟨fun y hy => ?_, i1⟩
    cases xs with
    | nil => cases hy
    | cons z xs =>
      have h0 := h 0 (by omega) (by simp only [List.length_cons]; omega)
      rw [ga_cons0, ga_consS (by omega)] at h0
      have h0 : x < z := h0
      rcases List.mem_cons.mp hy with e | e
      · omega
      · have := (List.pairwise_cons.mp i1).1 y e
        omega
/-- each with the one behind -/
theorem zip_le {n : Int} : ∀ {l : List Int} {x : Int × Int}, l.Pairwise (· < ·) → (∀ y ∈ l, y ≤ n) → x ∈ l.zip (l.tail ++ [n]) → x.1 ≤ x.2
  | [a], x, _, h, hx => by
    have hx : x = (a, n) := by simpa using hx
    subst hx
    exact h a List.mem_cons_self
  | a :: b :: l, x, hp, h, hx => by
    have hx : x ∈ (a, b) :: (b :: l).zip (l ++ [n]) := hx
    rcases List.mem_cons.mp hx with e | e
    · subst e
      exact Int.le_of_lt ((List.pairwise_cons.mp hp).1 b List.mem_cons_self)
    · exact zip_le (l := b :: l) (List.pairwise_cons.mp hp).2 (fun y hy => h y (List.mem_cons_of_mem _ hy)) e
theorem only_one {xs : List α} {a : α} (n : xs.Nodup) (h : ∀ x, x ∈ xs ↔ x = a) : xs = [a] := by
  cases xs with
  | nil => exact absurd ((h a).mpr rfl) (fun h => nomatch h)
  | cons x xs =>
    have e := (h x).mp List.mem_cons_self
    subst e
    cases xs with
    | nil => rfl
    | cons y xs =>
      have e := (h y).mp (List.mem_cons_of_mem _ List.mem_cons_self)
      subst e
      exact absurd List.mem_cons_self (List.nodup_cons.mp n).1
theorem sort_okN [DecidableEq α] {xs : List α} (hn : (xs.map e).all neTup = true) (h : xs.length ≤ 1000000) : sortE e xs = rtn (xs.mergeSort fun a b => !lt e b a) := by
  unfold sortE
  rw [hn, Bool.true_or, decide_eq_true (small_sz h)]
  exact grd_t _
/-- a rising row below n is short -/
theorem len_pw : ∀ {p : List Int} {n : Int}, p.Pairwise (· < ·) → (∀ x ∈ p, 0 ≤ x ∧ x < n) → 0 ≤ n → (p.length : Int) ≤ n
  | p, n, h, k, hn => by
    have : ∀ (p : List Int) (a : Int), p.Pairwise (· < ·) → (∀ x ∈ p, a ≤ x ∧ x < n) → a ≤ n → (p.length : Int) ≤ n - a := by
      intro p
      induction p with
      | nil => intro a _ _ h; simp; omega
      | cons x p ih =>
        intro a hp hk ha
        have hx := hk x List.mem_cons_self
        have hp := List.pairwise_cons.mp hp
        have := ih (x + 1) hp.2 (fun y hy => by have := hp.1 y hy; have := hk y (List.mem_cons_of_mem _ hy); omega) (by omega)
        simp only [List.length_cons]
        omega
    have := this p 0 h k hn
    omega
theorem rngN1_ok {j : Int} (h : -1000000 ≤ j ∧ j ≤ 1000000) : rngN1 j = rtn (rngI 0 j.toNat) := by unfold rngN1; rw [decide_eq_true h]; exact grd_t _
theorem rngN2_ok {i j : Int} (h : -1000000 ≤ i ∧ i ≤ 1000000) (h' : -1000000 ≤ j ∧ j ≤ 1000000) : rngN2 i j = rtn (rngI i (j - i).toNat) := by unfold rngN2; rw [decide_eq_true ⟨h, h'⟩]; exact grd_t _
theorem rep_okT {a : α} {k : Int} (h : 1 ≤ k) (h2 : k ≤ 1000) : repT [a] k = rtn (List.replicate k.toNat a) := by
  unfold repT
  rw [decide_eq_true ⟨h, h2, by simp⟩]
  have : ∀ n : Nat, (List.replicate n [a]).flatten = List.replicate n a := by
    intro n
    induction n with
    | zero => rfl
    | succ n ih => rw [List.replicate_succ, List.flatten_cons, ih]; rfl
  show grd true (rtn _) = _
  rw [this]
  exact grd_t _
/-! ### loops -/
/-- by a range of numbers -/
theorem for_ix {g : α → σ → M σ} (f : Nat → α) (I : Nat → σ → Prop) {n : Nat} {s : σ} (h0 : I 0 s) (hs : ∀ k s, k < n → I k s → ∃ s', g (f k) s = rtn s' ∧ I (k + 1) s') : ∃ s', forT g ((List.range n).map f) s = rtn s' ∧ I n s' := by
  obtain ⟨s', e, h⟩ := for_eq (fun pre s => I pre.length s) (xs := (List.range n).map f) (s := s) h0 fun pre x suf s e h => by
    have hl : pre.length < n := by have := congrArg List.length e; simp at this; omega
    have hx : x = f pre.length := by
      have h1 : ((List.range n).map f)[pre.length]? = some x := by rw [e]; simp
      rw [List.getElem?_map, List.getElem?_range hl] at h1
      exact (Option.some.inj h1).symm
    rw [hx, List.length_append]
    exact hs _ _ hl h
  rw [List.length_map, List.length_range] at h
  exact ⟨s', e, h⟩
def fnd (o : Option α) (f : α → τ) : Fw Unit τ := match o with
  | some x => .rt (f x)
  | none => .nx ()
/-- every turn leaves, or none -/
theorem forR_find {g : α → Unit → M (Fw Unit τ)} {p : α → Bool} {f : α → τ} : ∀ {xs : List α}, (∀ x ∈ xs, g x () = rtn (if p x then .rt (f x) else .nx ())) → forR g xs () = rtn (fnd (xs.find? p) f)
  | [], _ => rfl
  | x :: xs, h => by
    unfold forR
    rw [h x List.mem_cons_self, List.find?_cons]
    cases p x with
    | true => rfl
    | false => exact forR_find fun y hy => h y (List.mem_cons_of_mem _ hy)
theorem forR_any {g : α → Unit → M (Fw Unit τ)} {p : α → Bool} {a : τ} : ∀ {xs : List α}, (∀ x ∈ xs, g x () = rtn (if p x then .rt a else .nx ())) → forR g xs () = rtn (if xs.any p then .rt a else .nx ())
  | [], _ => rfl
  | x :: xs, h => by
    unfold forR
    rw [h x List.mem_cons_self, List.any_cons]
    cases p x with
    | true => rfl
    | false => exact forR_any fun y hy => h y (List.mem_cons_of_mem _ hy)
/-- while: by its states -/
theorem while_st {c : σ → M Bool} {g : σ → M σ} (S : Nat → σ) {m n : Nat} (hm : m < n) (hc : ∀ k, k < m → c (S k) = rtn true) (hs : ∀ k, k < m → g (S k) = rtn (S (k + 1))) (he : c (S m) = rtn false) : whileT c g n (S 0) = rtn (S m) := by
  have : ∀ j k n, k + j = m → j < n → whileT c g n (S k) = rtn (S m) := by
    intro j
    induction j with
    | zero =>
      intro k n h hn
      have : k = m := by omega
      subst this
      cases n with
      | zero => omega
      | succ n => show bnd (c _) _ = _; rw [he, bnd_rtn]; rfl
    | succ j ih =>
      intro k n h hn
      cases n with
      | zero => omega
      | succ n =>
        show bnd (c _) _ = _
        rw [hc k (by omega), bnd_rtn]
        show bnd (g _) _ = _
        rw [hs k (by omega), bnd_rtn]
        exact ih (k + 1) n (by omega) (by omega)
  exact this m 0 n (by omega) hm
/-- while: by an invariant and a measure that falls -/
theorem while_inv {c : σ → M Bool} {g : σ → M σ} (I : σ → Prop) (μ : σ → Nat) (cb : σ → Bool) (hc : ∀ s, I s → c s = rtn (cb s)) (hs : ∀ s, I s → cb s = true → ∃ s', g s = rtn s' ∧ I s' ∧ μ s' < μ s) : ∀ {n : Nat} {s : σ}, I s → μ s < n → ∃ s', whileT c g n s = rtn s' ∧ I s' ∧ cb s' = false := by
  intro n
  induction n with
  | zero => intro s _ h; omega
  | succ n ih =>
    intro s hI h
    show ∃ s', bnd (c s) _ = _ ∧ _
    rw [hc s hI, bnd_rtn]
    cases q : cb s with
    | false => exact ⟨s, rfl, hI, q⟩
    | true =>
      obtain ⟨s', e, h1, h2⟩ := hs s hI q
      obtain ⟨s2, e2, h3⟩ := ih h1 (by omega)
      refine ⟨s2, ?_, h3⟩
      show bnd (g s) _ = _
      rw [e, bnd_rtn, e2]
/-! ### the helpers at rows of whole numbers -/
theorem data_I (xs : List Int) : dataD (eT eI xs) = true := dataAll fun x hx => by
  obtain ⟨i, _, rfl⟩ := List.mem_map.mp hx
  rfl
theorem row_I (xs : List Int) (a b : Int) : rowT (eT eI xs) a b = rtn (decide (a ≤ xs.length) && decide ((xs.length : Int) ≤ b)) := by
  unfold rowT
  rw [data_I, grd_t]
  show rtn (decide (a ≤ ((xs.map eI).length : Int)) && decide (((xs.map eI).length : Int) ≤ b)) = _
  rw [List.length_map]
theorem whole_I (i a b : Int) : wholeT (eI i) a b = rtn (decide (a ≤ i) && decide (i ≤ b)) := grd_t _
theorem wholes_I {xs : List Int} (h : xs.length ≤ 1000000) (n a b : Int) : wholesT (eT eI xs) n a b = rtn (decide ((xs.length : Int) = n) && xs.all fun x => decide (a ≤ x) && decide (x ≤ b)) := by
  have hs : smallD (eT eI xs) = true := by
    show decide ((xs.map eI).length ≤ 1000000) = true
    rw [List.length_map]
    exact decide_eq_true h
  unfold wholesT
  rw [data_I, hs, Bool.and_self, grd_t]
  show rtn (decide (((xs.map eI).length : Int) = n) && (xs.map eI).all fun x => Sh.isWholeD x a b) = _
  rw [List.length_map, List.all_map]
  rfl
theorem req_t {nm : Str} : reqT true nm = rtn () := rfl
theorem req_f {nm : Str} : reqT false nm = rse nm := rfl
theorem plain_I {n : Nat} {i : Int} : Sh.plainD (n + 1) (eI i) = true := rfl
theorem plain_B {n : Nat} {b : Bool} : Sh.plainD (n + 1) (eB b) = true := rfl
theorem plain_T {n : Nat} {xs : List α} (h : ∀ x ∈ xs, Sh.plainD n (e x) = true) (hl : xs.length ≤ 1000000) : Sh.plainD (n + 1) (eT e xs) = true := by
  show ((xs.map e).all (Sh.plainD n) && decide ((xs.map e).length ≤ 1000000)) = true
  rw [List.length_map, decide_eq_true hl, Bool.and_true, List.all_map, List.all_eq_true]
  exact h
/-- what a reading says of the text -/
theorem RE.val {X : Ev.Row → Res PyData} {a : α} (h : RE X e (rtn a)) (R : Ev.Row) : X R = .ok (e a) R := by
  obtain ⟨b, q, rfl⟩ := h R
  exact q
theorem RE.err {X : Ev.Row → Res PyData} {nm : Str} (h : RE X e (rse nm)) (R : Ev.Row) : X R = .exc nm R := h R
theorem ref_rse {nm : Str} : refT (rse nm : M α) = rtn nm := rfl
theorem ref_rtn {a : α} : refT (rtn a) = rtn ("" : Str) := rfl
/-! ### what must come: loops that draw -/
theorem wp_comp {g : α → M (List β)} {P : β → Prop} : ∀ {xs : List α}, (∀ x ∈ xs, Wp (g x) fun l => ∃ y, l = [y] ∧ P y) → Wp (compT g xs) fun ys => ys.length = xs.length ∧ ∀ y ∈ ys, P y
  | [], _ => wp_ret ⟨rfl, fun y hy => nomatch hy⟩
  | x :: xs, h => by
    intro R hR
    have q := h x List.mem_cons_self R hR
    show Ends (match g x R with
      | .ok o R1 => (compT g xs R1).bind fun r R2 => .ok (o ++ r) R2
      | _ => .stuck) _ _
    cases e : g x R with
    | ok o R1 =>
      rw [e] at q
      obtain ⟨⟨y, ey, p⟩, hR1⟩ := q
      subst ey
      refine Ends.step (wp_comp (P := P) (fun z hz => h z (List.mem_cons_of_mem _ hz)) R1 hR1) fun r R2 ⟨⟨q1, q2⟩, hR2⟩ => ⟨⟨by simp [q1], fun z hz => ?_⟩, hR2⟩
      rcases List.mem_cons.mp hz with rfl | hz
      · exact p
      · exact q2 z hz
    | exc nm R1 => rw [e] at q; exact q.elim
    | stuck => rw [e] at q; exact q.elim
/-- drawn numbers -/
theorem wp_draws {f : Int → β} {n : Int} (h0 : 0 < n) (h1 : n < 1073741824) {xs : List α} : Wp (compT (fun _ => one (rtn true) (bnd (takenT n) fun v => rtn (f v))) xs) fun ys => ys.length = xs.length ∧ ∀ y ∈ ys, ∃ v, 0 ≤ v ∧ v < n ∧ y = f v := by
  refine wp_comp fun x _ => ?_
  rw [one_t]
  refine wp_bnd (wp_step (wp_taken h0 h1) fun v ⟨a, b⟩ => wp_ret (wp_ret ⟨_, rfl, v, a, b, rfl⟩))
theorem wp_draws0 {n : Int} (h0 : 0 < n) (h1 : n < 1073741824) {xs : List α} : Wp (compT (fun _ => one (rtn true) (takenT n)) xs) fun ys => ys.length = xs.length ∧ ∀ y ∈ ys, 0 ≤ y ∧ y < n := by
  refine wp_comp fun x _ => ?_
  rw [one_t]
  exact wp_step (wp_taken h0 h1) fun v h => wp_ret ⟨_, rfl, h⟩
theorem wp_thn {ms : M (Fw σ τ)} {f : σ → M υ} {g : τ → M υ} {P : σ → Prop} {Q : υ → Prop} (h : Wp ms fun w => ∃ s, w = .nx s ∧ P s) (k : ∀ s, P s → Wp (f s) Q) : Wp (thn ms f g) Q := wp_step h fun w ⟨s, e, p⟩ => by
  subst e
  exact k s p
end
end Ty

/-! Ty: ways from a place to the end, step by step; the table of the least -/
namespace Ty
open PySem PySem.Spec Ev
/-- the place behind -/
def nxt (n : Int) : List Int → Int
  | [] => n
  | b :: _ => b
/-- a way from a to n: the places where its steps begin -/
def Way (n : Int) : Int → List Int → Prop
  | a, [] => a = n
  | a, f :: p => f = a ∧ a < nxt n p ∧ Way n (nxt n p) p
def wayC (W : Int → Int → Int) (n : Int) : List Int → Int
  | [] => 0
  | f :: p => W f (nxt n p) + wayC W n p
theorem way_le {n : Int} : ∀ {p : List Int} {a : Int}, Way n a p → a ≤ n ∧ ∀ x ∈ p, a ≤ x ∧ x < n
  | [], a, h => ⟨Int.le_of_eq h, fun x hx => nomatch hx⟩
  | f :: p, a, h => by
    obtain ⟨h1, h2, h3⟩ := h
    obtain ⟨q1, q2⟩ := way_le h3
    refine ⟨by omega, fun x hx => ?_⟩
    rcases List.mem_cons.mp hx with e | hx
    · omega
    · have := q2 x hx
      omega
theorem way_len {n : Int} : ∀ {p : List Int} {a : Int}, Way n a p → (p.length : Int) ≤ n - a
  | [], a, h => by have : a = n := h; simp; omega
  | f :: p, a, h => by
    obtain ⟨h1, h2, h3⟩ := h
    have := way_len h3
    simp only [List.length_cons]
    omega
theorem way_pw {n : Int} : ∀ {p : List Int} {a : Int}, Way n a p → p.Pairwise (· < ·)
  | [], a, h => List.Pairwise.nil
  | f :: p, a, h => by
    obtain ⟨h1, h2, h3⟩ := h
    refine List.pairwise_cons.mpr ⟨fun x hx => ?_, way_pw h3⟩
    have := (way_le h3).2 x hx
    omega
theorem way_of {n : Int} : ∀ {p : List Int} {a : Int}, (a :: p).Pairwise (· < ·) → (∀ x ∈ a :: p, x < n) → Way n a (a :: p)
  | [], a, h, k => ⟨rfl, k a List.mem_cons_self, rfl⟩
  | b :: p, a, h, k => ⟨rfl, (List.pairwise_cons.mp h).1 b List.mem_cons_self, way_of (List.pairwise_cons.mp h).2 fun x hx => k x (List.mem_cons_of_mem _ hx)⟩
theorem way_ne {n a : Int} {p : List Int} (h : Way n a p) (ha : a < n) : ∃ q, p = a :: q := by
  cases p with
  | nil => have : a = n := h; omega
  | cons f p => exact ⟨p, by rw [h.1]⟩
/-- two ways, one behind the other -/
theorem way_app {m n : Int} {q : List Int} (hq : Way n m q) : ∀ {p : List Int} {a : Int}, Way m a p → Way n a (p ++ q)
  | [], a, h => by
    have h : a = m := h
    subst h
    exact hq
  | f :: p, a, h => by
    obtain ⟨h1, h2, h3⟩ := h
    have e : nxt n (p ++ q) = nxt m p := by
      cases p with
      | nil =>
        have h3 : nxt m [] = m := rfl
        cases q with
        | nil => have hq : m = n := hq; exact hq.symm
        | cons g q => exact hq.1
      | cons g p => rfl
    refine ⟨h1, by show a < nxt n (p ++ q); rw [e]; exact h2, ?_⟩
    show Way n (nxt n (p ++ q)) (p ++ q)
    rw [e]
    exact way_app hq h3
theorem cost_app {W : Int → Int → Int} {m n : Int} {q : List Int} (hq : Way n m q) : ∀ {p : List Int} {a : Int}, Way m a p → wayC W n (p ++ q) = wayC W m p + wayC W n q
  | [], a, h => by simp [wayC]
  | f :: p, a, h => by
    obtain ⟨h1, h2, h3⟩ := h
    have e : nxt n (p ++ q) = nxt m p := by
      cases p with
      | nil =>
        cases q with
        | nil => have hq : m = n := hq; exact hq.symm
        | cons g q => exact hq.1
      | cons g p => rfl
    show W f (nxt n (p ++ q)) + wayC W n (p ++ q) = W f (nxt m p) + wayC W m p + wayC W n q
    rw [e, cost_app hq h3]
    omega
/-- a way through b parts there -/
theorem way_split {n b : Int} : ∀ {p : List Int} {a : Int}, Way n a p → b ∈ p → ∃ s q, p = s ++ b :: q ∧ Way b a s ∧ Way n b (b :: q)
  | f :: p, a, h, hb => by
    by_cases e : b = f
    · subst e
      have := h.1
      subst this
      exact ⟨[], p, rfl, rfl, h⟩
    · obtain ⟨h1, h2, h3⟩ := h
      have hb : b ∈ p := (List.mem_cons.mp hb).resolve_left e
      obtain ⟨s, q, e1, e2, e3⟩ := way_split h3 hb
      refine ⟨f :: s, q, by rw [e1]; rfl, ⟨h1, ?_, ?_⟩, e3⟩
      · rw [e1] at h2
        cases s with
        | nil => exact h2
        | cons g s => exact h2
      · have : nxt b s = nxt n p := by
          rw [e1]
          cases s <;> rfl
        rw [this]
        exact e2
structure TabW (n : Int) (W : Int → Int → Int) (t : List Int) : Prop where
  len : (t.length : Int) = n + 1
  last : ga t n = 0
  ex : ∀ f : Int, 0 ≤ f → f < n → ∃ u, f < u ∧ u ≤ n ∧ ga t f = W f u + ga t u
  le : ∀ f u : Int, 0 ≤ f → f < u → u ≤ n → ga t f ≤ W f u + ga t u
section
variable {n : Int} {W : Int → Int → Int} {t : List Int}
theorem TabW.way_le (T : TabW n W t) : ∀ {p : List Int} {a : Int}, 0 ≤ a → Way n a p → ga t a ≤ wayC W n p
  | [], a, _, h => by
    have h : a = n := h
    rw [h, T.last]
    exact Int.le_refl _
  | f :: p, a, h0, h => by
    obtain ⟨h1, h2, h3⟩ := h
    have := T.way_le (by omega) h3
    have := T.le a (nxt n p) h0 h2 (Ty.way_le h3).1
    show ga t a ≤ W f (nxt n p) + wayC W n p
    rw [h1]
    omega
theorem TabW.way_ex (T : TabW n W t) : ∀ (j : Nat) {a : Int}, 0 ≤ a → a ≤ n → n - a ≤ j → ∃ p, Way n a p ∧ wayC W n p = ga t a
  | 0, a, h0, h1, h2 => ⟨[], (by omega : a = n), by rw [show a = n from by omega, T.last]; rfl⟩
  | j + 1, a, h0, h1, h2 => by
    by_cases e : a = n
    · exact ⟨[], e, by rw [e, T.last]; rfl⟩
    · obtain ⟨u, q1, q2, q3⟩ := T.ex a h0 (by omega)
      obtain ⟨p, p1, p2⟩ := T.way_ex j (a := u) (by omega) q2 (by omega)
      have e2 : nxt n p = u := by
        cases p with
        | nil => exact (show u = n from p1).symm
        | cons g p => exact p1.1
      exact ⟨a :: p, ⟨rfl, by rw [e2]; exact q1, by rw [e2]; exact p1⟩, by
        show W a (nxt n p) + wayC W n p = _
        rw [e2, p2, q3]⟩
theorem TabW.ext (T : TabW n W t) {m d : Int} {W' : Int → Int → Int} {t' : List Int} (T' : TabW m W' t') (hm : m + d = n) (hd : 0 ≤ d) (hW : ∀ a b, 0 ≤ a → a < b → b ≤ m → W' a b = W (a + d) (b + d)) : ∀ (j : Nat) {a : Int}, 0 ≤ a → a ≤ m → m - a ≤ j → ga t' a = ga t (a + d)
  | 0, a, h0, h1, h2 => by rw [show a = m from by omega, hm, T.last, T'.last]
  | j + 1, a, h0, h1, h2 => by
    by_cases e : a = m
    · rw [e, hm, T.last, T'.last]
    · obtain ⟨u, q1, q2, q3⟩ := T.ex (a + d) (by omega) (by omega)
      obtain ⟨v, r1, r2, r3⟩ := T'.ex a h0 (by omega)
      have a1 := T.le (a + d) (v + d) (by omega) (by omega) (by omega)
      have a2 := T'.le a (u - d) h0 (by omega) (by omega)
      rw [hW a v h0 r1 r2] at r3
      rw [hW a (u - d) h0 (by omega) (by omega), show u - d + d = u from by omega] at a2
      have i1 := T.ext T' hm hd hW j (a := v) (by omega) (by omega) (by omega)
      have i2 := T.ext T' hm hd hW j (a := u - d) (by omega) (by omega) (by omega)
      rw [show u - d + d = u from by omega] at i2
      omega
/-- from the beginning: the least to each place -/
structure TabF (n : Int) (W : Int → Int → Int) (t : List Int) : Prop where
  len : (t.length : Int) = n + 1
  fst : ga t 0 = 0
  ex : ∀ u : Int, 0 < u → u ≤ n → ∃ f, 0 ≤ f ∧ f < u ∧ ga t u = ga t f + W f u
  le : ∀ f u : Int, 0 ≤ f → f < u → u ≤ n → ga t u ≤ ga t f + W f u
theorem TabF.way_le (T : TabF n W t) {e : Int} (he : e ≤ n) : ∀ {p : List Int} {a : Int}, 0 ≤ a → Way e a p → ga t e ≤ ga t a + wayC W e p
  | [], a, _, h => by
    have h : a = e := h
    rw [h]
    show _ ≤ _ + (0 : Int)
    omega
  | f :: p, a, h0, h => by
    obtain ⟨h1, h2, h3⟩ := h
    have i := T.way_le he (by omega) h3
    have := (Ty.way_le h3).1
    have := T.le a (nxt e p) h0 h2 (by omega)
    show ga t e ≤ ga t a + (W f (nxt e p) + wayC W e p)
    rw [h1]
    omega
theorem TabF.way_ex (T : TabF n W t) : ∀ (j : Nat) {u : Int}, 0 ≤ u → u ≤ n → u ≤ j → ∃ p, Way u 0 p ∧ wayC W u p = ga t u
  | 0, u, h0, h1, h2 => ⟨[], (by omega : (0 : Int) = u), by rw [show u = 0 from by omega, T.fst]; rfl⟩
  | j + 1, u, h0, h1, h2 => by
    by_cases e : u = 0
    · exact ⟨[], e.symm, by rw [e, T.fst]; rfl⟩
    · obtain ⟨f, q1, q2, q3⟩ := T.ex u (by omega) h1
      obtain ⟨p, p1, p2⟩ := T.way_ex j (u := f) q1 (by omega) (by omega)
      have w : Way u f [f] := ⟨rfl, q2, rfl⟩
      exact ⟨p ++ [f], way_app w p1, by rw [cost_app w p1, p2, q3]; show _ + (W f u + 0) = _; omega⟩
end
/-- of two rows the first that comes first, the longer one if one goes on -/
def ear : List Int → List Int → Bool
  | [], _ => false
  | _ :: _, [] => true
  | a :: p, b :: q => if a = b then ear p q else decide (a < b)
theorem ear_irr : ∀ p : List Int, ear p p = false
  | [] => rfl
  | a :: p => by unfold ear; rw [if_pos rfl]; exact ear_irr p
theorem ear_asy : ∀ p q : List Int, ear p q = true → ear q p = false
  | [], _, h => nomatch h
  | a :: p, [], _ => rfl
  | a :: p, b :: q, h => by
    unfold ear at h ⊢
    by_cases e : a = b
    · rw [if_pos e] at h
      rw [if_pos e.symm]
      exact ear_asy p q h
    · rw [if_neg e, decide_eq_true_iff] at h
      rw [if_neg (Ne.symm e), decide_eq_false_iff_not]
      omega
end Ty

/-! Ty: sums over 0 .. n - 1 -/
namespace Ty
open PySem PySem.Spec Ev
def sm (n : Nat) (f : Int → Int) : Int := ((rngI 0 n).map f).sum
theorem sm_zero {f : Int → Int} : sm 0 f = 0 := rfl
theorem sm_succ {n : Nat} {f : Int → Int} : sm (n + 1) f = sm n f + f n := by
  unfold sm
  rw [rngI_last, List.map_append, List.sum_append]
  simp
theorem sm_congr {n : Nat} {f g : Int → Int} (h : ∀ x : Int, 0 ≤ x → x < n → f x = g x) : sm n f = sm n g := by
  unfold sm
  congr 1
  refine List.map_congr_left fun x hx => ?_
  have := mem_rngI.mp hx
  exact h x (by omega) (by omega)
theorem sm_add {f g : Int → Int} : ∀ n : Nat, sm n (fun x => f x + g x) = sm n f + sm n g
  | 0 => rfl
  | n + 1 => by rw [sm_succ, sm_succ, sm_succ, sm_add n]; omega
theorem sm_sub {f g : Int → Int} : ∀ n : Nat, sm n (fun x => f x - g x) = sm n f - sm n g
  | 0 => rfl
  | n + 1 => by rw [sm_succ, sm_succ, sm_succ, sm_sub n]; omega
theorem sm_le {f g : Int → Int} : ∀ {n : Nat}, (∀ x : Int, 0 ≤ x → x < n → f x ≤ g x) → sm n f ≤ sm n g
  | 0, _ => Int.le_refl _
  | n + 1, h => by
    rw [sm_succ, sm_succ]
    have := sm_le (f := f) (g := g) (n := n) fun x a b => h x a (by omega)
    have := h n (by omega) (by omega)
    omega
theorem sm_0 : ∀ n : Nat, sm n (fun _ => 0) = 0
  | 0 => rfl
  | n + 1 => by rw [sm_succ, sm_0 n]; rfl
theorem sm_swap {f : Int → Int → Int} {m : Nat} : ∀ n : Nat, sm n (fun x => sm m fun y => f x y) = sm m fun y => sm n fun x => f x y
  | 0 => (sm_0 m).symm
  | n + 1 => by
    rw [sm_succ, sm_swap n, ← sm_add]
    exact sm_congr fun y _ _ => sm_succ.symm
theorem sm_single {a v : Int} : ∀ n : Nat, sm n (fun x => if a = x then v else 0) = if 0 ≤ a ∧ a < n then v else 0
  | 0 => by rw [if_neg (by omega)]; rfl
  | n + 1 => by
    rw [sm_succ, sm_single n]
    by_cases h : a = (n : Int)
    · rw [if_neg (by omega), if_pos h, if_pos (by omega)]; omega
    · rw [if_neg h]
      by_cases h2 : 0 ≤ a ∧ a < n
      · rw [if_pos h2, if_pos (by omega)]; omega
      · rw [if_neg h2, if_neg (by omega)]; rfl
/-- a sum by members -/
theorem sm_mem {f : Int → Int} {n : Nat} : ∀ {p : List Int}, p.Nodup → (∀ x ∈ p, 0 ≤ x ∧ x < (n : Int)) → (p.map f).sum = sm n fun x : Int => if x ∈ p then f x else 0
  | [], _, _ => by simp only [List.not_mem_nil, if_false, sm_0]; rfl
  | a :: p, hn, h => by
    have hn' := List.nodup_cons.mp hn
    have ha := h a List.mem_cons_self
    rw [List.map_cons, List.sum_cons, sm_mem hn'.2 fun x hx => h x (List.mem_cons_of_mem _ hx)]
    have e1 := sm_single (a := a) (v := f a) n
    rw [if_pos ha] at e1
    rw [← e1, ← sm_add]
    refine sm_congr fun x _ _ => ?_
    by_cases e : a = x
    · subst e
      rw [if_pos rfl, if_neg hn'.1, if_pos List.mem_cons_self]
      omega
    · rw [if_neg e]
      by_cases c : x ∈ p
      · rw [if_pos c, if_pos (List.mem_cons_of_mem _ c)]; omega
      · rw [if_neg c, if_neg (fun h => by rcases List.mem_cons.mp h with h | h; exact e h.symm; exact c h)]; rfl
/-- a sum over a list -/
theorem sum_ga {xs : List Int} : xs.sum = sm xs.length fun x => ga xs x := by
  unfold sm
  congr 1
  refine ga_ext (by simp [len_rngI]) fun i h0 h1 => ?_
  rw [ga_map h0 (by rw [len_rngI]; exact h1), ga_rngI h0 h1, Int.zero_add]
theorem sum_filter {f : Int → Int} {p : Int → Bool} {n : Nat} : (((rngI 0 n).filter p).map f).sum = sm n fun x => if p x = true then f x else 0 := by
  induction n with
  | zero => rfl
  | succ n ih =>
    rw [rngI_last, List.filter_append, List.map_append, List.sum_append, ih, sm_succ]
    congr 1
    rw [show (0 : Int) + n = n from by omega]
    cases h : p n <;> simp [h]
section
variable {α σ : Type}
theorem aug_ga {g : Int → Int → Int} {xs : List Int} {i : Int} (h0 : 0 ≤ i) (h1 : i < xs.length) : augT g xs i = rtn (ga xs i, i.toNat) := by
  have h := aug_ok (g := g) (xs := xs) (n := i.toNat) (by omega)
  rw [Int.toNat_of_nonneg h0] at h
  rw [h, ← ga_nat (by omega : i.toNat < xs.length), Int.toNat_of_nonneg h0]
/-- a walk over enumerate -/
theorem enum_eq [Inhabited α] {xs : List α} : enumT xs = (List.range xs.length).map fun k : Nat => ((k : Int), ga xs k) := by
  unfold enumT
  refine List.ext_getElem (by simp [len_rngI]) fun n h1 h2 => ?_
  have hn : n < xs.length := by simpa using h2
  have e : (rngI 0 xs.length)[n]'(by rw [len_rngI]; exact hn) = (n : Int) := by
    have := ga_rngI (lo := 0) (n := xs.length) (i := n) (by omega) (by omega)
    rw [ga_nat (by rw [len_rngI]; exact hn)] at this
    omega
  simp only [List.getElem_zip, List.getElem_map, List.getElem_range, e, ga_nat hn]
theorem mem_enum [Inhabited α] {xs : List α} {x : Int × α} (h : x ∈ enumT xs) : 0 ≤ x.1 ∧ x.1 < xs.length ∧ x.2 = ga xs x.1 := by
  rw [enum_eq] at h
  obtain ⟨k, hk, rfl⟩ := List.mem_map.mp h
  have := List.mem_range.mp hk
  exact ⟨by show (0 : Int) ≤ k; omega, by show (k : Int) < _; omega, rfl⟩
theorem enum_map [Inhabited α] {β : Type} {xs : List α} {f : Int × α → β} : (enumT xs).map f = (rngI 0 xs.length).map fun x => f (x, ga xs x) := by
  rw [enum_eq]
  unfold rngI
  rw [List.map_map, List.map_map]
  refine List.map_congr_left fun k _ => ?_
  show f ((k : Int), ga xs (k : Int)) = f (0 + (k : Int), ga xs (0 + (k : Int)))
  rw [Int.zero_add]
theorem zip_ga [Inhabited α] [Inhabited σ] {xs : List α} {ys : List σ} {i : Int} (h0 : 0 ≤ i) (h1 : i < xs.length) (h2 : i < ys.length) : (ga xs i, ga ys i) ∈ xs.zip ys := by
  obtain ⟨k, rfl⟩ : ∃ k : Nat, i = k := ⟨i.toNat, by omega⟩
  rw [ga_nat (by omega : k < xs.length), ga_nat (by omega : k < ys.length)]
  have : (xs.zip ys)[k]'(by rw [List.length_zip]; omega) = (xs[k]'(by omega), ys[k]'(by omega)) := List.getElem_zip
  rw [← this]
  exact List.getElem_mem _
theorem zip_mem [Inhabited α] [Inhabited σ] {xs : List α} {ys : List σ} {x : α × σ} (h : x ∈ xs.zip ys) : ∃ i : Int, 0 ≤ i ∧ i < xs.length ∧ i < ys.length ∧ x = (ga xs i, ga ys i) := by
  obtain ⟨k, hk, rfl⟩ := List.getElem_of_mem h
  rw [List.length_zip] at hk
  refine ⟨k, by omega, by omega, by omega, ?_⟩
  rw [ga_nat (by omega : k < xs.length), ga_nat (by omega : k < ys.length), List.getElem_zip]
theorem wp_rng {g : Int → σ → M σ} (I : Nat → σ → Prop) {lo : Int} {n : Nat} {s : σ} (h0 : I 0 s) (hs : ∀ k s, k < n → I k s → Wp (g (lo + (k : Int)) s) (I (k + 1))) : Wp (forT g (rngI lo n) s) (I n) := by
  have h := wp_for (g := g) (fun pre s => I pre.length s) (xs := rngI lo n) (s := s) h0 fun pre x suf s e h => by
    have hl : pre.length < n := by
      have := congrArg List.length e
      rw [len_rngI] at this
      simp at this
      omega
    have hx : x = lo + (pre.length : Int) := by
      have h1 : (rngI lo n)[pre.length]? = some x := by rw [e]; simp
      unfold rngI at h1
      rw [List.getElem?_map, List.getElem?_range hl] at h1
      exact (Option.some.inj h1).symm
    rw [hx, List.length_append]
    exact hs _ _ hl h
  rwa [len_rngI] at h
theorem ga_app [Inhabited α] {xs : List α} {a : α} {i : Int} (h0 : 0 ≤ i) : ga (xs ++ [a]) i = if i = xs.length then a else if i < xs.length then ga xs i else default := by
  unfold ga
  rw [List.getD_eq_getElem?_getD, List.getD_eq_getElem?_getD, List.getElem?_append]
  by_cases h : i < xs.length
  · rw [if_pos (by omega), if_neg (by omega), if_pos h]
  · rw [if_neg (by omega)]
    by_cases e : i = xs.length
    · rw [if_pos e, show i.toNat - xs.length = 0 from by omega]; rfl
    · rw [if_neg e, if_neg h]
      obtain ⟨m, hm⟩ : ∃ m, i.toNat - xs.length = m + 1 := ⟨i.toNat - xs.length - 1, by omega⟩
      rw [hm]
      rfl
end
end Ty

namespace K20
open PySem PySem.Spec Ev Ty
theorem r_require (b : Bool) (nm : Str) : RE (F_require [eB b, eS nm]) eU (reqT b nm) := re_req b nm
theorem r_is_whole (d : PyData) (a b : Int) : RE (F_is_whole [eA d, eI a, eI b]) eB (wholeT d a b) := re_whole d a b
theorem r_is_row (d : PyData) (a b : Int) : RE (F_is_row [eA d, eI a, eI b]) eB (rowT d a b) := re_row d a b
theorem r_are_wholes (d : PyData) (n a b : Int) : RE (F_are_wholes [eA d, eI n, eI a, eI b]) eB (wholesT d n a b) := re_wholes d n a b
theorem r__law_taken (n : Int) : RE (F__law_taken [rowD, eI n]) eI (takenT n) := re_taken n
theorem r__law_pick {α : Type} {e : α → PyData} (xs : List α) : RE (F__law_pick [rowD, eL e xs]) e (pickT xs) := re_pick xs
theorem alike_eq : ∀ n, F__law_alike n = Sh.F__law_alike n := by
  intro n
  induction n with
  | zero => rfl
  | succ n ih =>
    show callF 1 (den__law_alike (F__law_alike n)) = callF 1 (Sh.den__law_alike (Sh.F__law_alike n))
    rw [ih]
    rfl
theorem r__law_alike (x y : PyData) : RE (F__law_alike 8 [eA x, eA y]) eB (alikeT 8 x y) := by
  rw [alike_eq]
  exact re_alike 8 x y
def T_is_stand (value_ : (List (Int × Int))) : M Bool :=
  (bnd (bnd (bnd (bnd (bnd (rtn value_) fun x => rtn ((fun x : (List (Int × Int)) => (eT (eP2 eI eI)) x) x)) fun x1 => bnd (rtn (1 : Int)) fun x2 => bnd (rtn (16 : Int)) fun x3 => rowT x1 x2 x3) fun b => rtn (!b)) fun b => if b then rtn true else (bnd (bnd (bnd (rtn value_) fun xs => bnd (compT (fun x4 : (Int × Int) => one (rtn true) (bnd (bnd (rtn x4) fun x => rtn ((fun x : (Int × Int) => (eP2 eI eI) x) x)) fun x5 => bnd (rtn (2 : Int)) fun x6 => bnd (rtn (2 : Int)) fun x7 => rowT x5 x6 x7)) xs) szT) fun x => rtn (x.all id)) fun b => rtn (!b))) fun c => if c then (rtn false) else (bnd (bnd (bnd (rtn value_) fun x => rtn (enumT x)) fun xs => bnd (compT (fun x8 : (Int × (Int × Int)) => one (rtn true) (bnd (bnd (bnd (bnd (rtn x8.2) fun x12 => rtn x12.1) fun x => rtn ((fun x : Int => eI x) x)) fun x15 => bnd (rtn (-1 : Int)) fun x16 => bnd (bnd (rtn x8.1) fun x13 => bnd (rtn (1 : Int)) fun x14 => rtn (x13 - x14)) fun x17 => wholeT x15 x16 x17) fun b => if b then (bnd (bnd (bnd (rtn x8.2) fun x19 => rtn x19.2) fun x => rtn ((fun x : Int => eI x) x)) fun x20 => bnd (rtn (0 : Int)) fun x21 => bnd (rtn (999 : Int)) fun x22 => wholeT x20 x21 x22) else rtn false)) xs) szT) fun x => rtn (x.all id)))
theorem r_is_stand (value_ : (List (Int × Int))) : RE (F_is_stand [(eT (eP2 eI eI)) value_]) eB (T_is_stand value_) :=
  se_fn [some ((eT (eP2 eI eI)) value_), none, none] rfl (rg_ifR (rb_or (rb_not (rb_of (rc_3 (re_as (e := (eT (eP2 eI eI))) (e' := eA) (fun x : (List (Int × Int)) => (eT (eP2 eI eI)) x) (fun _ => rfl) (re_var value_ (eT (eP2 eI eI)) rfl)) re_int re_int (fun x1 x2 x3 => r_is_row x1 x2 x3)))) (rb_not (rb_of (re_blt1 (re_lst (rl_comp (rl_seqT (re_var value_ (eT (eP2 eI eI)) rfl)) (fun x4 => turnC_sim (ρ' := [some ((eT (eP2 eI eI)) value_), none, some ((eP2 eI eI) x4)]) rfl rb_yes (rc_3 (re_as (e := (eP2 eI eI)) (e' := eA) (fun x : (Int × Int) => (eP2 eI eI) x) (fun _ => rfl) (re_var x4 (eP2 eI eI) rfl)) re_int re_int (fun x5 x6 x7 => r_is_row x5 x6 x7))))) u_all)))) (rg_ret re_bool) (rg_ret (re_blt1 (re_lst (rl_comp (rl_enum true (re_var value_ (eT (eP2 eI eI)) rfl)) (fun x8 => turnC_sim (ρ' := [some ((eT (eP2 eI eI)) value_), some (eI x8.1), some ((eP2 eI eI) x8.2)]) rfl rb_yes (re_and (rc_3 (re_as (e := eI) (e' := eA) (fun x : Int => eI x) (fun _ => rfl) (re_p2_0 (re_var x8.2 (eP2 eI eI) rfl))) re_int (re_bin bo_sub (re_var x8.1 eI rfl) re_int) (fun x15 x16 x17 => r_is_whole x15 x16 x17)) (rc_3 (re_as (e := eI) (e' := eA) (fun x : Int => eI x) (fun _ => rfl) (re_p2_1 (re_var x8.2 (eP2 eI eI) rfl))) re_int re_int (fun x20 x21 x22 => r_is_whole x20 x21 x22)))))) u_all)))
def T_sums_of (stand_ : (List (Int × Int))) : M ((List Int) × (List Int)) :=
  (bnd (bnd (rtn stand_) fun xs => bnd (compT (fun x1 : (Int × Int) => one (rtn true) (bnd (rtn x1) fun x2 => rtn x2.2)) xs) szT) fun felled_9 => bnd (bnd (bnd (bnd (rtn (0 : Int)) fun x5 => bnd (rtn ([] : List Int)) fun y6 => rtn (x5 :: y6)) szT) fun x7 => bnd (bnd (rtn stand_) fun x => rtn (x.length : Int)) fun x8 => repN2 x7 x8) fun kept_10 => (bnd (bnd (bnd (bnd (bnd (rtn stand_) fun x => rtn (x.length : Int)) fun x11 => bnd (rtn (1 : Int)) fun x12 => rtn (x11 - x12)) fun x => bnd (bnd (rtn (1 : Int)) fun x => rtn (-x)) fun y => rngT3 x y) fun xs => forT (fun (x15 : Int) (s14 : ((List Int) × (List Int))) => (bnd (bnd (bnd (rtn stand_) fun x16 => bnd (rtn x15) fun x17 => atT x16 x17) fun x18 => rtn x18.1) fun ahead_19 => (bnd (bnd (rtn ahead_19) fun x20 => bnd (rtn (0 : Int)) fun x21 => rtn (decide (x21 ≤ x20))) fun c => if c then (bnd (rtn ahead_19) fun j => bnd (augT (fun i j : Int => i + j) s14.1 j) fun q => bnd (bnd (rtn s14.2) fun x22 => bnd (rtn x15) fun x23 => atT x22 x23) fun a => (fun felled_24 : List Int => (bnd (rtn ahead_19) fun j => bnd (augT (fun i j : Int => i + j) s14.2 j) fun q => bnd (bnd (bnd (rtn felled_24) fun x27 => bnd (rtn x15) fun x28 => atT x27 x28) fun x => bnd (bnd (rtn s14.2) fun x25 => bnd (rtn x15) fun x26 => atT x25 x26) fun y => rtn (max x y)) fun a => (fun kept_29 : List Int => (rtn (felled_24, kept_29))) (s14.2.set q.2 (q.1 + a)))) (s14.1.set q.2 (q.1 + a))) else (rtn (s14.1, s14.2))))) xs (felled_9, kept_10)) fun s30 => (bnd (rtn s30.1) fun x31 => bnd (rtn s30.2) fun x32 => rtn (x31, x32))))
theorem r_sums_of (stand_ : (List (Int × Int))) : RE (F_sums_of [(eT (eP2 eI eI)) stand_]) (eP2 (eL eI) (eL eI)) (T_sums_of stand_) :=
  se_fn [some ((eT (eP2 eI eI)) stand_), none, none, none, none, none] rfl (sg_par2 (fun felled_9 kept_10 => [some ((eT (eP2 eI eI)) stand_), none, some ((eL eI) felled_9), some ((eL eI) kept_10), none, none]) rfl (re_lst (rl_comp (rl_seqT (re_var stand_ (eT (eP2 eI eI)) rfl)) (fun x1 => turnC_sim (ρ' := [some ((eT (eP2 eI eI)) stand_), none, none, none, none, some ((eP2 eI eI) x1)]) rfl rb_yes (re_p2_1 (re_var x1 (eP2 eI eI) rfl))))) (re_lst (rl_rep (re_lst (rl_lst (rl_cons re_int (rl_nil (e := eI))))) (re_blt1 (re_var stand_ (eT (eP2 eI eI)) rfl) u_lenT))) (fun _ _ => rfl) (fun felled_9 kept_10 => (rg_seq (Rel := (fun (s13 : (List Int) × (List Int)) ρ' => ∃ j1 j4, ρ' = [some ((eT (eP2 eI eI)) stand_), j1, some ((eL eI) s13.1), some ((eL eI) s13.2), j4, none])) (rg_forM (fun (s13 : (List Int) × (List Int)) ρ' => ∃ j1 j4, ρ' = [some ((eT (eP2 eI eI)) stand_), j1, some ((eL eI) s13.1), some ((eL eI) s13.2), j4, none]) (g := (fun (x15 : Int) (s14 : ((List Int) × (List Int))) => (bnd (bnd (bnd (rtn stand_) fun x16 => bnd (rtn x15) fun x17 => atT x16 x17) fun x18 => rtn x18.1) fun ahead_19 => (bnd (bnd (rtn ahead_19) fun x20 => bnd (rtn (0 : Int)) fun x21 => rtn (decide (x21 ≤ x20))) fun c => if c then (bnd (rtn ahead_19) fun j => bnd (augT (fun i j : Int => i + j) s14.1 j) fun q => bnd (bnd (rtn s14.2) fun x22 => bnd (rtn x15) fun x23 => atT x22 x23) fun a => (fun felled_24 : List Int => (bnd (rtn ahead_19) fun j => bnd (augT (fun i j : Int => i + j) s14.2 j) fun q => bnd (bnd (bnd (rtn felled_24) fun x27 => bnd (rtn x15) fun x28 => atT x27 x28) fun x => bnd (bnd (rtn s14.2) fun x25 => bnd (rtn x15) fun x26 => atT x25 x26) fun y => rtn (max x y)) fun a => (fun kept_29 : List Int => (rtn (felled_24, kept_29))) (s14.2.set q.2 (q.1 + a)))) (s14.1.set q.2 (q.1 + a))) else (rtn (s14.1, s14.2)))))) (felled_9, kept_10) (rl_rng3 (re_bin bo_sub (re_blt1 (re_var stand_ (eT (eP2 eI eI)) rfl) u_lenT) re_int) (re_un uo_neg re_int)) ⟨_, _, rfl⟩ (fun x15 s14 ρ' h => by obtain ⟨j1_s14, j4_s14, rfl⟩ := h; exact (rg_turn (ρ' := [some ((eT (eP2 eI eI)) stand_), some (eI x15), some ((eL eI) s14.1), some ((eL eI) s14.2), j4_s14, none]) rfl (sg_asgM (fun ahead_19 => [some ((eT (eP2 eI eI)) stand_), some (eI x15), some ((eL eI) s14.1), some ((eL eI) s14.2), some (eI ahead_19), none]) (re_p2_0 (re_bin bo_idxT (re_var stand_ (eT (eP2 eI eI)) rfl) (re_var x15 eI rfl))) (fun _ => rfl) (fun ahead_19 => (rg_if (rb_of (re_bin bo_ge (re_var ahead_19 eI rfl) re_int)) (sg_augI (f := fun felled_24 => (bnd (rtn ahead_19) fun j => bnd (augT (fun i j : Int => i + j) s14.2 j) fun q => bnd (bnd (bnd (rtn felled_24) fun x27 => bnd (rtn x15) fun x28 => atT x27 x28) fun x => bnd (bnd (rtn s14.2) fun x25 => bnd (rtn x15) fun x26 => atT x25 x26) fun y => rtn (max x y)) fun a => (fun kept_29 : List Int => (rtn (felled_24, kept_29))) (s14.2.set q.2 (q.1 + a)))) s14.1 (fun felled_24 => [some ((eT (eP2 eI eI)) stand_), some (eI x15), some ((eL eI) felled_24), some ((eL eI) s14.2), some (eI ahead_19), none]) rfl (re_bin bo_idxL (re_var s14.2 (eL eI) rfl) (re_var x15 eI rfl)) (re_var ahead_19 eI rfl) (fun _ => rfl) (fun felled_24 => (rg_last (sg_augI (f := fun kept_29 => (rtn (felled_24, kept_29))) s14.2 (fun kept_29 => [some ((eT (eP2 eI eI)) stand_), some (eI x15), some ((eL eI) felled_24), some ((eL eI) kept_29), some (eI ahead_19), none]) rfl (re_blt2 (re_bin bo_idxL (re_var felled_24 (eL eI) rfl) (re_var x15 eI rfl)) (re_bin bo_idxL (re_var s14.2 (eL eI) rfl) (re_var x15 eI rfl)) u_max2) (re_var ahead_19 eI rfl) (fun _ => rfl) (fun kept_29 => (rg_next (felled_24, kept_29) ⟨_, _, rfl⟩)))))) (rg_next (s14.1, s14.2) ⟨_, _, rfl⟩))))))) (fun s30 ρ' h => by obtain ⟨j1_s30, j4_s30, rfl⟩ := h; exact (rg_ret (re_tup2 (re_var s30.1 (eL eI) rfl) (re_var s30.2 (eL eI) rfl)))))))
def T_worth (stand_ : (List (Int × Int))) : M Int :=
  (bnd (bnd (bnd (rtn stand_) fun x2 => T_is_stand x2) fun x3 => bnd (rtn ("stand" : Str)) fun x4 => reqT x3 x4) fun _ => (bnd (bnd (rtn stand_) fun x5 => T_sums_of x5) fun p6 => (bnd (bnd (bnd (rtn stand_) fun x => rtn (enumT x)) fun xs => bnd (compT (fun x7 : (Int × (Int × Int)) => one (bnd (bnd (rtn x7.2) fun x9 => rtn x9.1) fun x10 => bnd (rtn (0 : Int)) fun x11 => rtn (decide (x10 < x11))) (bnd (bnd (rtn p6.1) fun x14 => bnd (rtn x7.1) fun x15 => atT x14 x15) fun x => bnd (bnd (rtn p6.2) fun x12 => bnd (rtn x7.1) fun x13 => atT x12 x13) fun y => rtn (max x y))) xs) szT) fun x => rtn x.sum)))
theorem r_worth (stand_ : (List (Int × Int))) : RE (F_worth [(eT (eP2 eI eI)) stand_]) eI (T_worth stand_) :=
  se_fn [some ((eT (eP2 eI eI)) stand_), none, none, none, none] rfl (rg_expr (rc_2 (rc_1 (re_var stand_ (eT (eP2 eI eI)) rfl) (fun x2 => r_is_stand x2)) re_str (fun x3 x4 => r_require x3 x4)) (rg_asgT (fun p6 => [some ((eT (eP2 eI eI)) stand_), some ((eL eI) p6.1), some ((eL eI) p6.2), none, none]) (rc_1 (re_var stand_ (eT (eP2 eI eI)) rfl) (fun x5 => r_sums_of x5)) (fun _ => rfl) (fun p6 => (rg_ret (re_blt1 (re_lst (rl_comp (rl_enum true (re_var stand_ (eT (eP2 eI eI)) rfl)) (fun x7 => turnC_sim (ρ' := [some ((eT (eP2 eI eI)) stand_), some ((eL eI) p6.1), some ((eL eI) p6.2), some (eI x7.1), some ((eP2 eI eI) x7.2)]) rfl (rb_of (re_bin bo_lt (re_p2_0 (re_var x7.2 (eP2 eI eI) rfl)) re_int)) (re_blt2 (re_bin bo_idxL (re_var p6.1 (eL eI) rfl) (re_var x7.1 eI rfl)) (re_bin bo_idxL (re_var p6.2 (eL eI) rfl) (re_var x7.1 eI rfl)) u_max2)))) u_sumL)))))
def T_trees (stand_ : (List (Int × Int))) : M (List Int) :=
  (bnd (bnd (bnd (rtn stand_) fun x2 => T_is_stand x2) fun x3 => bnd (rtn ("stand" : Str)) fun x4 => reqT x3 x4) fun _ => (bnd (bnd (rtn stand_) fun x5 => T_sums_of x5) fun p6 => (bnd (bnd (rtn ([] : List Int)) szT) fun found_7 => (bnd (bnd (bnd (rtn stand_) fun x => rtn (enumT x)) fun xs => forT (fun (x10 : (Int × (Int × Int))) (s9 : ((List Int))) => (bnd (bnd (bnd (bnd (rtn x10.2) fun x12 => rtn x12.1) fun x13 => bnd (rtn s9) fun x14 => rtn (!inT x13 x14)) fun b => if b then (bnd (bnd (rtn p6.1) fun x19 => bnd (rtn x10.1) fun x20 => atT x19 x20) fun x23 => bnd (bnd (rtn p6.2) fun x21 => bnd (rtn x10.1) fun x22 => atT x21 x22) fun x24 => rtn (decide (x24 < x23))) else rtn false) fun c => if c then (bnd (rtn x10.1) fun a => bnd (appT s9 a) fun found_25 => (rtn found_25)) else (rtn s9))) xs found_7) fun s26 => (bnd (rtn s26) rtn)))))
theorem r_trees (stand_ : (List (Int × Int))) : RE (F_trees [(eT (eP2 eI eI)) stand_]) (eT eI) (T_trees stand_) :=
  se_fn [some ((eT (eP2 eI eI)) stand_), none, none, none, none, none] rfl (rg_expr (rc_2 (rc_1 (re_var stand_ (eT (eP2 eI eI)) rfl) (fun x2 => r_is_stand x2)) re_str (fun x3 x4 => r_require x3 x4)) (rg_asgT (fun p6 => [some ((eT (eP2 eI eI)) stand_), none, some ((eL eI) p6.1), some ((eL eI) p6.2), none, none]) (rc_1 (re_var stand_ (eT (eP2 eI eI)) rfl) (fun x5 => r_sums_of x5)) (fun _ => rfl) (fun p6 => (sg_newM (fun found_7 => [some ((eT (eP2 eI eI)) stand_), some ((eL eI) found_7), some ((eL eI) p6.1), some ((eL eI) p6.2), none, none]) (re_lst (rl_lst (rl_nil (e := eI)))) rfl (fun _ => rfl) (fun found_7 => (rg_seq (Rel := (fun (s8 : (List Int)) ρ' => ∃ j4 j5, ρ' = [some ((eT (eP2 eI eI)) stand_), some ((eL eI) s8), some ((eL eI) p6.1), some ((eL eI) p6.2), j4, j5])) (rg_forM (fun (s8 : (List Int)) ρ' => ∃ j4 j5, ρ' = [some ((eT (eP2 eI eI)) stand_), some ((eL eI) s8), some ((eL eI) p6.1), some ((eL eI) p6.2), j4, j5]) (g := (fun (x10 : (Int × (Int × Int))) (s9 : ((List Int))) => (bnd (bnd (bnd (bnd (rtn x10.2) fun x12 => rtn x12.1) fun x13 => bnd (rtn s9) fun x14 => rtn (!inT x13 x14)) fun b => if b then (bnd (bnd (rtn p6.1) fun x19 => bnd (rtn x10.1) fun x20 => atT x19 x20) fun x23 => bnd (bnd (rtn p6.2) fun x21 => bnd (rtn x10.1) fun x22 => atT x21 x22) fun x24 => rtn (decide (x24 < x23))) else rtn false) fun c => if c then (bnd (rtn x10.1) fun a => bnd (appT s9 a) fun found_25 => (rtn found_25)) else (rtn s9)))) found_7 (rl_enum true (re_var stand_ (eT (eP2 eI eI)) rfl)) ⟨_, _, rfl⟩ (fun x10 s9 ρ' h => by obtain ⟨j4_s9, j5_s9, rfl⟩ := h; exact (rg_turn (ρ' := [some ((eT (eP2 eI eI)) stand_), some ((eL eI) s9), some ((eL eI) p6.1), some ((eL eI) p6.2), some (eI x10.1), some ((eP2 eI eI) x10.2)]) rfl (rg_if (rb_and (rb_of (re_bin (bo_notin eq_I sh_I sh_I) (re_p2_0 (re_var x10.2 (eP2 eI eI) rfl)) (re_var s9 (eL eI) rfl))) (rb_of (re_bin bo_gt (re_bin bo_idxL (re_var p6.1 (eL eI) rfl) (re_var x10.1 eI rfl)) (re_bin bo_idxL (re_var p6.2 (eL eI) rfl) (re_var x10.1 eI rfl))))) (rg_last (sg_app s9 (fun found_25 => [some ((eT (eP2 eI eI)) stand_), some ((eL eI) found_25), some ((eL eI) p6.1), some ((eL eI) p6.2), some (eI x10.1), some ((eP2 eI eI) x10.2)]) rfl pu_I (re_var x10.1 eI rfl) (fun _ => rfl) (fun found_25 => (rg_next found_25 ⟨_, _, rfl⟩)))) (rg_next s9 ⟨_, _, rfl⟩))))) (fun s26 ρ' h => by obtain ⟨j4_s26, j5_s26, rfl⟩ := h; exact (rg_ret (re_blt1 (re_var s26 (eL eI) rfl) u_tupL)))))))))
def T_are_trees (stand_ : (List (Int × Int))) (value_ : (List Int)) : M Bool :=
  (bnd (bnd (bnd (rtn stand_) fun x2 => T_is_stand x2) fun x3 => bnd (rtn ("stand" : Str)) fun x4 => reqT x3 x4) fun _ => (bnd (bnd (bnd (bnd (bnd (rtn value_) fun x => rtn ((fun x : (List Int) => (eT eI) x) x)) fun x5 => bnd (rtn (0 : Int)) fun x6 => bnd (bnd (rtn stand_) fun x => rtn (x.length : Int)) fun x7 => rowT x5 x6 x7) fun b => rtn (!b)) fun b => if b then rtn true else (bnd (bnd (bnd (rtn value_) fun x => rtn ((fun x : (List Int) => (eT eI) x) x)) fun x12 => bnd (bnd (rtn value_) fun x => rtn (x.length : Int)) fun x13 => bnd (rtn (0 : Int)) fun x14 => bnd (bnd (bnd (rtn stand_) fun x => rtn (x.length : Int)) fun x10 => bnd (rtn (1 : Int)) fun x11 => rtn (x10 - x11)) fun x15 => wholesT x12 x13 x14 x15) fun b => rtn (!b))) fun c => if c then (rtn false) else (bnd (bnd (bnd (bnd (bnd (rtn (1 : Int)) fun x => bnd (bnd (rtn value_) fun x => rtn (x.length : Int)) fun y => rngT2 x y) fun xs => bnd (compT (fun x16 : Int => one (rtn true) (bnd (bnd (rtn value_) fun x23 => bnd (bnd (rtn x16) fun x17 => bnd (rtn (1 : Int)) fun x18 => rtn (x17 - x18)) fun x24 => atT x23 x24) fun x27 => bnd (bnd (rtn value_) fun x25 => bnd (rtn x16) fun x26 => atT x25 x26) fun x28 => rtn (decide (x27 < x28)))) xs) szT) fun x => rtn (x.all id)) fun b => rtn (!b)) fun c => if c then (rtn false) else (bnd (bnd (bnd (rtn value_) fun xs => bnd (compT (fun x29 : Int => one (rtn true) (bnd (bnd (bnd (rtn stand_) fun x30 => bnd (rtn x29) fun x31 => atT x30 x31) fun x33 => rtn x33.1) fun x34 => bnd (rtn value_) fun x35 => rtn (inT x34 x35))) xs) szT) fun x => rtn (x.any id)) fun x => rtn (!x)))))
theorem r_are_trees (stand_ : (List (Int × Int))) (value_ : (List Int)) : RE (F_are_trees [(eT (eP2 eI eI)) stand_, (eT eI) value_]) eB (T_are_trees stand_ value_) :=
  se_fn [some ((eT (eP2 eI eI)) stand_), some ((eT eI) value_), none] rfl (rg_expr (rc_2 (rc_1 (re_var stand_ (eT (eP2 eI eI)) rfl) (fun x2 => r_is_stand x2)) re_str (fun x3 x4 => r_require x3 x4)) (rg_ifR (rb_or (rb_not (rb_of (rc_3 (re_as (e := (eT eI)) (e' := eA) (fun x : (List Int) => (eT eI) x) (fun _ => rfl) (re_var value_ (eT eI) rfl)) re_int (re_blt1 (re_var stand_ (eT (eP2 eI eI)) rfl) u_lenT) (fun x5 x6 x7 => r_is_row x5 x6 x7)))) (rb_not (rb_of (rc_4 (re_as (e := (eT eI)) (e' := eA) (fun x : (List Int) => (eT eI) x) (fun _ => rfl) (re_var value_ (eT eI) rfl)) (re_blt1 (re_var value_ (eT eI) rfl) u_lenT) re_int (re_bin bo_sub (re_blt1 (re_var stand_ (eT (eP2 eI eI)) rfl) u_lenT) re_int) (fun x12 x13 x14 x15 => r_are_wholes x12 x13 x14 x15))))) (rg_ret re_bool) (rg_ifR (rb_not (rb_of (re_blt1 (re_lst (rl_comp (rl_rng2 re_int (re_blt1 (re_var value_ (eT eI) rfl) u_lenT)) (fun x16 => turnC_sim (ρ' := [some ((eT (eP2 eI eI)) stand_), some ((eT eI) value_), some (eI x16)]) rfl rb_yes (re_bin bo_lt (re_bin bo_idxT (re_var value_ (eT eI) rfl) (re_bin bo_sub (re_var x16 eI rfl) re_int)) (re_bin bo_idxT (re_var value_ (eT eI) rfl) (re_var x16 eI rfl)))))) u_all))) (rg_ret re_bool) (rg_ret (re_not (re_blt1 (re_lst (rl_comp (rl_seqT (re_var value_ (eT eI) rfl)) (fun x29 => turnC_sim (ρ' := [some ((eT (eP2 eI eI)) stand_), some ((eT eI) value_), some (eI x29)]) rfl rb_yes (re_bin bo_inT (re_p2_0 (re_bin bo_idxT (re_var stand_ (eT (eP2 eI eI)) rfl) (re_var x29 eI rfl))) (re_var value_ (eT eI) rfl))))) u_any))))))
def T_worth_of (stand_ : (List (Int × Int))) (value_ : (List Int)) : M Int :=
  (bnd (bnd (bnd (rtn stand_) fun x3 => bnd (rtn value_) fun x4 => T_are_trees x3 x4) fun x5 => bnd (rtn ("value" : Str)) fun x6 => reqT x5 x6) fun _ => (bnd (bnd (rtn value_) fun xs => bnd (compT (fun x7 : Int => one (rtn true) (bnd (bnd (rtn stand_) fun x8 => bnd (rtn x7) fun x9 => atT x8 x9) fun x10 => rtn x10.2)) xs) szT) fun x => rtn x.sum))
theorem r_worth_of (stand_ : (List (Int × Int))) (value_ : (List Int)) : RE (F_worth_of [(eT (eP2 eI eI)) stand_, (eT eI) value_]) eI (T_worth_of stand_ value_) :=
  se_fn [some ((eT (eP2 eI eI)) stand_), some ((eT eI) value_), none] rfl (rg_expr (rc_2 (rc_2 (re_var stand_ (eT (eP2 eI eI)) rfl) (re_var value_ (eT eI) rfl) (fun x3 x4 => r_are_trees x3 x4)) re_str (fun x5 x6 => r_require x5 x6)) (rg_ret (re_blt1 (re_lst (rl_comp (rl_seqT (re_var value_ (eT eI) rfl)) (fun x7 => turnC_sim (ρ' := [some ((eT (eP2 eI eI)) stand_), some ((eT eI) value_), some (eI x7)]) rfl rb_yes (re_p2_1 (re_bin bo_idxT (re_var stand_ (eT (eP2 eI eI)) rfl) (re_var x7 eI rfl)))))) u_sumL)))
def T_cover (stand_ : (List (Int × Int))) : M (List Int) :=
  (bnd (bnd (bnd (rtn stand_) fun x2 => T_is_stand x2) fun x3 => bnd (rtn ("stand" : Str)) fun x4 => reqT x3 x4) fun _ => (bnd (bnd (bnd (bnd (rtn (0 : Int)) fun x7 => bnd (rtn ([] : List Int)) fun y8 => rtn (x7 :: y8)) szT) fun x9 => bnd (bnd (rtn stand_) fun x => rtn (x.length : Int)) fun x10 => repN2 x9 x10) fun found_17 => bnd (bnd (bnd (bnd (rtn (0 : Int)) fun x13 => bnd (rtn ([] : List Int)) fun y14 => rtn (x13 :: y14)) szT) fun x15 => bnd (bnd (rtn stand_) fun x => rtn (x.length : Int)) fun x16 => repN2 x15 x16) fun got_18 => (bnd (bnd (bnd (bnd (bnd (rtn stand_) fun x => rtn (x.length : Int)) fun x19 => bnd (rtn (1 : Int)) fun x20 => rtn (x19 - x20)) fun x => bnd (bnd (rtn (1 : Int)) fun x => rtn (-x)) fun y => rngT3 x y) fun xs => forT (fun (x23 : Int) (s22 : ((List Int) × (List Int))) => (bnd (bnd (rtn (0 : Int)) fun x => bnd (bnd (bnd (bnd (rtn stand_) fun x25 => bnd (rtn x23) fun x26 => atT x25 x26) fun x27 => rtn x27.2) fun x30 => bnd (bnd (rtn s22.2) fun x28 => bnd (rtn x23) fun x29 => atT x28 x29) fun x31 => rtn (x30 - x31)) fun y => rtn (max x y)) fun a => bnd (rtn x23) fun j => bnd (setT s22.1 j a) fun found_24 => (bnd (bnd (bnd (rtn stand_) fun x32 => bnd (rtn x23) fun x33 => atT x32 x33) fun x34 => rtn x34.1) fun ahead_35 => (bnd (bnd (rtn ahead_35) fun x36 => bnd (rtn (0 : Int)) fun x37 => rtn (decide (x37 ≤ x36))) fun c => if c then (bnd (rtn ahead_35) fun j => bnd (augT (fun i j : Int => i + j) s22.2 j) fun q => bnd (bnd (rtn found_24) fun x38 => bnd (rtn x23) fun x39 => atT x38 x39) fun a => (fun got_40 : List Int => (rtn (found_24, got_40))) (s22.2.set q.2 (q.1 + a))) else (rtn (found_24, s22.2)))))) xs (found_17, got_18)) fun s41 => (bnd (rtn s41.1) rtn))))
theorem r_cover (stand_ : (List (Int × Int))) : RE (F_cover [(eT (eP2 eI eI)) stand_]) (eT eI) (T_cover stand_) :=
  se_fn [some ((eT (eP2 eI eI)) stand_), none, none, none, none] rfl (rg_expr (rc_2 (rc_1 (re_var stand_ (eT (eP2 eI eI)) rfl) (fun x2 => r_is_stand x2)) re_str (fun x3 x4 => r_require x3 x4)) (sg_par2 (fun found_17 got_18 => [some ((eT (eP2 eI eI)) stand_), none, some ((eL eI) found_17), some ((eL eI) got_18), none]) rfl (re_lst (rl_rep (re_lst (rl_lst (rl_cons re_int (rl_nil (e := eI))))) (re_blt1 (re_var stand_ (eT (eP2 eI eI)) rfl) u_lenT))) (re_lst (rl_rep (re_lst (rl_lst (rl_cons re_int (rl_nil (e := eI))))) (re_blt1 (re_var stand_ (eT (eP2 eI eI)) rfl) u_lenT))) (fun _ _ => rfl) (fun found_17 got_18 => (rg_seq (Rel := (fun (s21 : (List Int) × (List Int)) ρ' => ∃ j1 j4, ρ' = [some ((eT (eP2 eI eI)) stand_), j1, some ((eL eI) s21.1), some ((eL eI) s21.2), j4])) (rg_forM (fun (s21 : (List Int) × (List Int)) ρ' => ∃ j1 j4, ρ' = [some ((eT (eP2 eI eI)) stand_), j1, some ((eL eI) s21.1), some ((eL eI) s21.2), j4]) (g := (fun (x23 : Int) (s22 : ((List Int) × (List Int))) => (bnd (bnd (rtn (0 : Int)) fun x => bnd (bnd (bnd (bnd (rtn stand_) fun x25 => bnd (rtn x23) fun x26 => atT x25 x26) fun x27 => rtn x27.2) fun x30 => bnd (bnd (rtn s22.2) fun x28 => bnd (rtn x23) fun x29 => atT x28 x29) fun x31 => rtn (x30 - x31)) fun y => rtn (max x y)) fun a => bnd (rtn x23) fun j => bnd (setT s22.1 j a) fun found_24 => (bnd (bnd (bnd (rtn stand_) fun x32 => bnd (rtn x23) fun x33 => atT x32 x33) fun x34 => rtn x34.1) fun ahead_35 => (bnd (bnd (rtn ahead_35) fun x36 => bnd (rtn (0 : Int)) fun x37 => rtn (decide (x37 ≤ x36))) fun c => if c then (bnd (rtn ahead_35) fun j => bnd (augT (fun i j : Int => i + j) s22.2 j) fun q => bnd (bnd (rtn found_24) fun x38 => bnd (rtn x23) fun x39 => atT x38 x39) fun a => (fun got_40 : List Int => (rtn (found_24, got_40))) (s22.2.set q.2 (q.1 + a))) else (rtn (found_24, s22.2))))))) (found_17, got_18) (rl_rng3 (re_bin bo_sub (re_blt1 (re_var stand_ (eT (eP2 eI eI)) rfl) u_lenT) re_int) (re_un uo_neg re_int)) ⟨_, _, rfl⟩ (fun x23 s22 ρ' h => by obtain ⟨j1_s22, j4_s22, rfl⟩ := h; exact (rg_turn (ρ' := [some ((eT (eP2 eI eI)) stand_), some (eI x23), some ((eL eI) s22.1), some ((eL eI) s22.2), j4_s22]) rfl (sg_setI s22.1 (fun found_24 => [some ((eT (eP2 eI eI)) stand_), some (eI x23), some ((eL eI) found_24), some ((eL eI) s22.2), j4_s22]) rfl pu_I (re_blt2 re_int (re_bin bo_sub (re_p2_1 (re_bin bo_idxT (re_var stand_ (eT (eP2 eI eI)) rfl) (re_var x23 eI rfl))) (re_bin bo_idxL (re_var s22.2 (eL eI) rfl) (re_var x23 eI rfl))) u_max2) (re_var x23 eI rfl) (fun _ => rfl) (fun found_24 => (sg_asgM (fun ahead_35 => [some ((eT (eP2 eI eI)) stand_), some (eI x23), some ((eL eI) found_24), some ((eL eI) s22.2), some (eI ahead_35)]) (re_p2_0 (re_bin bo_idxT (re_var stand_ (eT (eP2 eI eI)) rfl) (re_var x23 eI rfl))) (fun _ => rfl) (fun ahead_35 => (rg_if (rb_of (re_bin bo_ge (re_var ahead_35 eI rfl) re_int)) (rg_last (sg_augI (f := fun got_40 => (rtn (found_24, got_40))) s22.2 (fun got_40 => [some ((eT (eP2 eI eI)) stand_), some (eI x23), some ((eL eI) found_24), some ((eL eI) got_40), some (eI ahead_35)]) rfl (re_bin bo_idxL (re_var found_24 (eL eI) rfl) (re_var x23 eI rfl)) (re_var ahead_35 eI rfl) (fun _ => rfl) (fun got_40 => (rg_next (found_24, got_40) ⟨_, _, rfl⟩)))) (rg_next (found_24, s22.2) ⟨_, _, rfl⟩))))))))) (fun s41 ρ' h => by obtain ⟨j1_s41, j4_s41, rfl⟩ := h; exact (rg_ret (re_blt1 (re_var s41.1 (eL eI) rfl) u_tupL)))))))
def T_is_cover (stand_ : (List (Int × Int))) (value_ : (List Int)) : M Bool :=
  (bnd (bnd (bnd (rtn stand_) fun x2 => T_is_stand x2) fun x3 => bnd (rtn ("stand" : Str)) fun x4 => reqT x3 x4) fun _ => (bnd (bnd (bnd (bnd (rtn value_) fun x => rtn ((fun x : (List Int) => (eT eI) x) x)) fun x5 => bnd (bnd (rtn stand_) fun x => rtn (x.length : Int)) fun x6 => bnd (rtn (0 : Int)) fun x7 => bnd (rtn (999 : Int)) fun x8 => wholesT x5 x6 x7 x8) fun b => rtn (!b)) fun c => if c then (rtn false) else (bnd (bnd (rtn value_) rtn) fun got_9 => (bnd (bnd (bnd (rtn stand_) fun x => rtn (enumT x)) fun xs => forT (fun (x12 : (Int × (Int × Int))) (s11 : ((List Int))) => (bnd (bnd (bnd (rtn x12.2) fun x14 => rtn x14.1) fun x15 => bnd (rtn (0 : Int)) fun x16 => rtn (decide (x16 ≤ x15))) fun c => if c then (bnd (bnd (rtn x12.2) fun x17 => rtn x17.1) fun j => bnd (augT (fun i j : Int => i + j) s11 j) fun q => bnd (bnd (rtn value_) fun x18 => bnd (rtn x12.1) fun x19 => atT x18 x19) fun a => (fun got_20 : List Int => (rtn got_20)) (s11.set q.2 (q.1 + a))) else (rtn s11))) xs got_9) fun s21 => (bnd (bnd (bnd (rtn s21) fun x => bnd (rtn stand_) fun y => rtn (x.zip y)) fun xs => bnd (compT (fun x22 : (Int × (Int × Int)) => one (rtn true) (bnd (rtn x22.1) fun x25 => bnd (bnd (rtn x22.2) fun x24 => rtn x24.2) fun x26 => rtn (decide (x26 ≤ x25)))) xs) szT) fun x => rtn (x.all id))))))
theorem r_is_cover (stand_ : (List (Int × Int))) (value_ : (List Int)) : RE (F_is_cover [(eT (eP2 eI eI)) stand_, (eT eI) value_]) eB (T_is_cover stand_ value_) :=
  se_fn [some ((eT (eP2 eI eI)) stand_), some ((eT eI) value_), none, none, none, none] rfl (rg_expr (rc_2 (rc_1 (re_var stand_ (eT (eP2 eI eI)) rfl) (fun x2 => r_is_stand x2)) re_str (fun x3 x4 => r_require x3 x4)) (rg_ifR (rb_not (rb_of (rc_4 (re_as (e := (eT eI)) (e' := eA) (fun x : (List Int) => (eT eI) x) (fun _ => rfl) (re_var value_ (eT eI) rfl)) (re_blt1 (re_var stand_ (eT (eP2 eI eI)) rfl) u_lenT) re_int re_int (fun x5 x6 x7 x8 => r_are_wholes x5 x6 x7 x8)))) (rg_ret re_bool) (sg_newM (fun got_9 => [some ((eT (eP2 eI eI)) stand_), some ((eT eI) value_), some ((eL eI) got_9), none, none, none]) (re_lst (rl_blt1 (re_var value_ (eT eI) rfl) ul_listT)) rfl (fun _ => rfl) (fun got_9 => (rg_seq (Rel := (fun (s10 : (List Int)) ρ' => ∃ j3 j4, ρ' = [some ((eT (eP2 eI eI)) stand_), some ((eT eI) value_), some ((eL eI) s10), j3, j4, none])) (rg_forM (fun (s10 : (List Int)) ρ' => ∃ j3 j4, ρ' = [some ((eT (eP2 eI eI)) stand_), some ((eT eI) value_), some ((eL eI) s10), j3, j4, none]) (g := (fun (x12 : (Int × (Int × Int))) (s11 : ((List Int))) => (bnd (bnd (bnd (rtn x12.2) fun x14 => rtn x14.1) fun x15 => bnd (rtn (0 : Int)) fun x16 => rtn (decide (x16 ≤ x15))) fun c => if c then (bnd (bnd (rtn x12.2) fun x17 => rtn x17.1) fun j => bnd (augT (fun i j : Int => i + j) s11 j) fun q => bnd (bnd (rtn value_) fun x18 => bnd (rtn x12.1) fun x19 => atT x18 x19) fun a => (fun got_20 : List Int => (rtn got_20)) (s11.set q.2 (q.1 + a))) else (rtn s11)))) got_9 (rl_enum true (re_var stand_ (eT (eP2 eI eI)) rfl)) ⟨_, _, rfl⟩ (fun x12 s11 ρ' h => by obtain ⟨j3_s11, j4_s11, rfl⟩ := h; exact (rg_turn (ρ' := [some ((eT (eP2 eI eI)) stand_), some ((eT eI) value_), some ((eL eI) s11), some (eI x12.1), some ((eP2 eI eI) x12.2), none]) rfl (rg_if (rb_of (re_bin bo_ge (re_p2_0 (re_var x12.2 (eP2 eI eI) rfl)) re_int)) (rg_last (sg_augI (f := fun got_20 => (rtn got_20)) s11 (fun got_20 => [some ((eT (eP2 eI eI)) stand_), some ((eT eI) value_), some ((eL eI) got_20), some (eI x12.1), some ((eP2 eI eI) x12.2), none]) rfl (re_bin bo_idxT (re_var value_ (eT eI) rfl) (re_var x12.1 eI rfl)) (re_p2_0 (re_var x12.2 (eP2 eI eI) rfl)) (fun _ => rfl) (fun got_20 => (rg_next got_20 ⟨_, _, rfl⟩)))) (rg_next s11 ⟨_, _, rfl⟩))))) (fun s21 ρ' h => by obtain ⟨j3_s21, j4_s21, rfl⟩ := h; exact (rg_ret (re_blt1 (re_lst (rl_comp (rl_zip false true (re_var s21 (eL eI) rfl) (re_var stand_ (eT (eP2 eI eI)) rfl)) (fun x22 => turnC_sim (ρ' := [some ((eT (eP2 eI eI)) stand_), some ((eT eI) value_), some ((eL eI) s21), j3_s21, some ((eP2 eI eI) x22.2), some (eI x22.1)]) rfl rb_yes (re_bin bo_ge (re_var x22.1 eI rfl) (re_p2_1 (re_var x22.2 (eP2 eI eI) rfl)))))) u_all))))))))
def T_best_of (stand_ : (List (Int × Int))) : M Int :=
  (bnd (bnd (rtn stand_) fun x1 => T_sums_of x1) fun p2 => (bnd (bnd (bnd (rtn stand_) fun x => rtn (enumT x)) fun xs => bnd (compT (fun x3 : (Int × (Int × Int)) => one (bnd (bnd (rtn x3.2) fun x5 => rtn x5.1) fun x6 => bnd (rtn (0 : Int)) fun x7 => rtn (decide (x6 < x7))) (bnd (bnd (rtn p2.1) fun x10 => bnd (rtn x3.1) fun x11 => atT x10 x11) fun x => bnd (bnd (rtn p2.2) fun x8 => bnd (rtn x3.1) fun x9 => atT x8 x9) fun y => rtn (max x y))) xs) szT) fun x => rtn x.sum))
theorem r_best_of (stand_ : (List (Int × Int))) : RE (F_best_of [(eT (eP2 eI eI)) stand_]) eI (T_best_of stand_) :=
  se_fn [some ((eT (eP2 eI eI)) stand_), none, none, none, none] rfl (rg_asgT (fun p2 => [some ((eT (eP2 eI eI)) stand_), some ((eL eI) p2.1), some ((eL eI) p2.2), none, none]) (rc_1 (re_var stand_ (eT (eP2 eI eI)) rfl) (fun x1 => r_sums_of x1)) (fun _ => rfl) (fun p2 => (rg_ret (re_blt1 (re_lst (rl_comp (rl_enum true (re_var stand_ (eT (eP2 eI eI)) rfl)) (fun x3 => turnC_sim (ρ' := [some ((eT (eP2 eI eI)) stand_), some ((eL eI) p2.1), some ((eL eI) p2.2), some (eI x3.1), some ((eP2 eI eI) x3.2)]) rfl (rb_of (re_bin bo_lt (re_p2_0 (re_var x3.2 (eP2 eI eI) rfl)) re_int)) (re_blt2 (re_bin bo_idxL (re_var p2.1 (eL eI) rfl) (re_var x3.1 eI rfl)) (re_bin bo_idxL (re_var p2.2 (eL eI) rfl) (re_var x3.1 eI rfl)) u_max2)))) u_sumL))))
def T_always (stand_ : (List (Int × Int))) : M (List Int) :=
  (bnd (bnd (bnd (rtn stand_) fun x2 => T_is_stand x2) fun x3 => bnd (rtn ("stand" : Str)) fun x4 => reqT x3 x4) fun _ => (bnd (bnd (rtn stand_) fun x5 => T_best_of x5) fun most_6 => bnd (bnd (rtn ([] : List Int)) szT) fun found_7 => (bnd (bnd (bnd (bnd (rtn stand_) fun x => rtn (x.length : Int)) rngT1) fun xs => forT (fun (x10 : Int) (s9 : ((List Int))) => (bnd (bnd (bnd (bnd (rtn stand_) fun x21 => bnd (rtn none) fun x22 => bnd (bnd (rtn x10) fun x20 => rtn (some x20)) fun x23 => rtn (cutL x21 x22 x23)) fun x37 => bnd (bnd (bnd (bnd (bnd (bnd (rtn stand_) fun x15 => bnd (rtn x10) fun x16 => atT x15 x16) fun x24 => rtn x24.1) fun x25 => bnd (rtn (0 : Int)) fun x26 => rtn (x25, x26)) fun x27 => bnd (rtn ([] : List (Int × Int))) fun y28 => rtn (x27 :: y28)) szT) fun x38 => catT x37 x38) fun x43 => bnd (bnd (rtn stand_) fun x40 => bnd (bnd (bnd (rtn x10) fun x31 => bnd (rtn (1 : Int)) fun x32 => rtn (x31 + x32)) fun x39 => rtn (some x39)) fun x41 => bnd (rtn none) fun x42 => rtn (cutL x40 x41 x42)) fun x44 => catT x43 x44) fun less_45 => (bnd (bnd (bnd (rtn less_45) fun x47 => T_best_of x47) fun x48 => bnd (rtn most_6) fun x49 => rtn (decide (x48 < x49))) fun c => if c then (bnd (rtn x10) fun a => bnd (appT s9 a) fun found_50 => (rtn found_50)) else (rtn s9)))) xs found_7) fun s51 => (bnd (rtn s51) rtn))))
theorem r_always (stand_ : (List (Int × Int))) : RE (F_always [(eT (eP2 eI eI)) stand_]) (eT eI) (T_always stand_) :=
  se_fn [some ((eT (eP2 eI eI)) stand_), none, none, none, none] rfl (rg_expr (rc_2 (rc_1 (re_var stand_ (eT (eP2 eI eI)) rfl) (fun x2 => r_is_stand x2)) re_str (fun x3 x4 => r_require x3 x4)) (sg_par2 (fun most_6 found_7 => [some ((eT (eP2 eI eI)) stand_), none, some (eI most_6), some ((eL eI) found_7), none]) rfl (rc_1 (re_var stand_ (eT (eP2 eI eI)) rfl) (fun x5 => r_best_of x5)) (re_lst (rl_lst (rl_nil (e := eI)))) (fun _ _ => rfl) (fun most_6 found_7 => (rg_seq (Rel := (fun (s8 : (List Int)) ρ' => ∃ j1 j4, ρ' = [some ((eT (eP2 eI eI)) stand_), j1, some (eI most_6), some ((eL eI) s8), j4])) (rg_forM (fun (s8 : (List Int)) ρ' => ∃ j1 j4, ρ' = [some ((eT (eP2 eI eI)) stand_), j1, some (eI most_6), some ((eL eI) s8), j4]) (g := (fun (x10 : Int) (s9 : ((List Int))) => (bnd (bnd (bnd (bnd (rtn stand_) fun x21 => bnd (rtn none) fun x22 => bnd (bnd (rtn x10) fun x20 => rtn (some x20)) fun x23 => rtn (cutL x21 x22 x23)) fun x37 => bnd (bnd (bnd (bnd (bnd (bnd (rtn stand_) fun x15 => bnd (rtn x10) fun x16 => atT x15 x16) fun x24 => rtn x24.1) fun x25 => bnd (rtn (0 : Int)) fun x26 => rtn (x25, x26)) fun x27 => bnd (rtn ([] : List (Int × Int))) fun y28 => rtn (x27 :: y28)) szT) fun x38 => catT x37 x38) fun x43 => bnd (bnd (rtn stand_) fun x40 => bnd (bnd (bnd (rtn x10) fun x31 => bnd (rtn (1 : Int)) fun x32 => rtn (x31 + x32)) fun x39 => rtn (some x39)) fun x41 => bnd (rtn none) fun x42 => rtn (cutL x40 x41 x42)) fun x44 => catT x43 x44) fun less_45 => (bnd (bnd (bnd (rtn less_45) fun x47 => T_best_of x47) fun x48 => bnd (rtn most_6) fun x49 => rtn (decide (x48 < x49))) fun c => if c then (bnd (rtn x10) fun a => bnd (appT s9 a) fun found_50 => (rtn found_50)) else (rtn s9))))) found_7 (rl_rng1 (re_blt1 (re_var stand_ (eT (eP2 eI eI)) rfl) u_lenT)) ⟨_, _, rfl⟩ (fun x10 s9 ρ' h => by obtain ⟨j1_s9, j4_s9, rfl⟩ := h; exact (rg_turn (ρ' := [some ((eT (eP2 eI eI)) stand_), some (eI x10), some (eI most_6), some ((eL eI) s9), j4_s9]) rfl (sg_asgM (fun less_45 => [some ((eT (eP2 eI eI)) stand_), some (eI x10), some (eI most_6), some ((eL eI) s9), some ((eT (eP2 eI eI)) less_45)]) (re_bin bo_cat (re_bin bo_cat (re_slice (re_var stand_ (eT (eP2 eI eI)) rfl) ro_none (ro_some (re_var x10 eI rfl))) (re_tupT (rl_cons (re_tup2 (re_p2_0 (re_bin bo_idxT (re_var stand_ (eT (eP2 eI eI)) rfl) (re_var x10 eI rfl))) re_int) (rl_nil (e := (eP2 eI eI)))))) (re_slice (re_var stand_ (eT (eP2 eI eI)) rfl) (ro_some (re_bin bo_add (re_var x10 eI rfl) re_int)) ro_none)) (fun _ => rfl) (fun less_45 => (rg_if (rb_of (re_bin bo_lt (rc_1 (re_var less_45 (eT (eP2 eI eI)) rfl) (fun x47 => r_best_of x47)) (re_var most_6 eI rfl))) (rg_last (sg_app s9 (fun found_50 => [some ((eT (eP2 eI eI)) stand_), some (eI x10), some (eI most_6), some ((eL eI) found_50), some ((eT (eP2 eI eI)) less_45)]) rfl pu_I (re_var x10 eI rfl) (fun _ => rfl) (fun found_50 => (rg_next found_50 ⟨_, _, rfl⟩)))) (rg_next s9 ⟨_, _, rfl⟩))))))) (fun s51 ρ' h => by obtain ⟨j1_s51, j4_s51, rfl⟩ := h; exact (rg_ret (re_blt1 (re_var s51 (eL eI) rfl) u_tupL)))))))
def T__law_stand  : M (List (Int × Int)) :=
  (bnd (bnd (rtn ([] : List (Int × Int))) szT) fun found_9 => bnd (bnd (rtn ()) fun _ => bnd (bnd (bnd (rtn (2 : Int)) fun x5 => bnd (bnd (rtn (9 : Int)) fun x3 => bnd (bnd (rtn (1000 : Int)) fun x1 => bnd (rtn ([] : List Int)) fun y2 => rtn (x1 :: y2)) fun y4 => rtn (x3 :: y4)) fun y6 => rtn (x5 :: y6)) szT) fun x7 => pickT x7) fun most_10 => bnd (bnd (rtn ()) fun _ => bnd (rtn (3 : Int)) fun x8 => takenT x8) fun what_11 => (bnd (bnd (bnd (bnd (rtn (1 : Int)) fun x13 => bnd (bnd (rtn ()) fun _ => bnd (rtn (9 : Int)) fun x12 => takenT x12) fun x14 => rtn (x13 + x14)) rngT1) fun xs => forT (fun (x17 : Int) (s16 : ((List (Int × Int)))) => (bnd (bnd (bnd (rtn what_11) fun x18 => bnd (rtn (0 : Int)) fun x19 => rtn (decide (x18 = x19))) fun c => if c then (bnd (rtn x17) fun x29 => bnd (rtn (1 : Int)) fun x30 => rtn (x29 - x30)) else (bnd (bnd (rtn ()) fun _ => bnd (bnd (rtn x17) fun x24 => bnd (rtn (1 : Int)) fun x25 => rtn (x24 + x25)) fun x26 => takenT x26) fun x31 => bnd (rtn (1 : Int)) fun x32 => rtn (x31 - x32))) fun ahead_33 => (bnd (bnd (rtn ahead_33) fun x36 => bnd (bnd (rtn ()) fun _ => bnd (rtn most_10) fun x35 => takenT x35) fun x37 => rtn (x36, x37)) fun a => bnd (appT s16 a) fun found_38 => (rtn found_38)))) xs found_9) fun s39 => (bnd (rtn s39) rtn)))
theorem r__law_stand  : RE (F__law_stand [rowD]) (eT (eP2 eI eI)) (T__law_stand ) :=
  se_fn [some rowD, none, none, none, none, none] rfl (sg_par3 (fun found_9 most_10 what_11 => [some rowD, none, some ((eL (eP2 eI eI)) found_9), some (eI most_10), some (eI what_11), none]) rfl (re_lst (rl_lst (rl_nil (e := (eP2 eI eI))))) (rc_2 (re_var () (fun _ => rowD) rfl) (re_lst (rl_lst (rl_cons re_int (rl_cons re_int (rl_cons re_int (rl_nil (e := eI))))))) (fun _ xs => r__law_pick xs)) (rc_2 (re_var () (fun _ => rowD) rfl) re_int (fun _ x8 => r__law_taken x8)) (fun _ _ _ => rfl) (fun found_9 most_10 what_11 => (rg_seq (Rel := (fun (s15 : (List (Int × Int))) ρ' => ∃ j1 j5, ρ' = [some rowD, j1, some ((eL (eP2 eI eI)) s15), some (eI most_10), some (eI what_11), j5])) (rg_forM (fun (s15 : (List (Int × Int))) ρ' => ∃ j1 j5, ρ' = [some rowD, j1, some ((eL (eP2 eI eI)) s15), some (eI most_10), some (eI what_11), j5]) (g := (fun (x17 : Int) (s16 : ((List (Int × Int)))) => (bnd (bnd (bnd (rtn what_11) fun x18 => bnd (rtn (0 : Int)) fun x19 => rtn (decide (x18 = x19))) fun c => if c then (bnd (rtn x17) fun x29 => bnd (rtn (1 : Int)) fun x30 => rtn (x29 - x30)) else (bnd (bnd (rtn ()) fun _ => bnd (bnd (rtn x17) fun x24 => bnd (rtn (1 : Int)) fun x25 => rtn (x24 + x25)) fun x26 => takenT x26) fun x31 => bnd (rtn (1 : Int)) fun x32 => rtn (x31 - x32))) fun ahead_33 => (bnd (bnd (rtn ahead_33) fun x36 => bnd (bnd (rtn ()) fun _ => bnd (rtn most_10) fun x35 => takenT x35) fun x37 => rtn (x36, x37)) fun a => bnd (appT s16 a) fun found_38 => (rtn found_38))))) found_9 (rl_rng1 (re_bin bo_add re_int (rc_2 (re_var () (fun _ => rowD) rfl) re_int (fun _ x12 => r__law_taken x12)))) ⟨_, _, rfl⟩ (fun x17 s16 ρ' h => by obtain ⟨j1_s16, j5_s16, rfl⟩ := h; exact (rg_turn (ρ' := [some rowD, some (eI x17), some ((eL (eP2 eI eI)) s16), some (eI most_10), some (eI what_11), j5_s16]) rfl (sg_asgM (fun ahead_33 => [some rowD, some (eI x17), some ((eL (eP2 eI eI)) s16), some (eI most_10), some (eI what_11), some (eI ahead_33)]) (re_if (rb_of (re_bin (bo_eq eq_I sh_I) (re_var what_11 eI rfl) re_int)) (re_bin bo_sub (re_var x17 eI rfl) re_int) (re_bin bo_sub (rc_2 (re_var () (fun _ => rowD) rfl) (re_bin bo_add (re_var x17 eI rfl) re_int) (fun _ x26 => r__law_taken x26)) re_int)) (fun _ => rfl) (fun ahead_33 => (rg_last (sg_app s16 (fun found_38 => [some rowD, some (eI x17), some ((eL (eP2 eI eI)) found_38), some (eI most_10), some (eI what_11), some (eI ahead_33)]) rfl (pu_P2 pu_I pu_I) (re_tup2 (re_var ahead_33 eI rfl) (rc_2 (re_var () (fun _ => rowD) rfl) (re_var most_10 eI rfl) (fun _ x35 => r__law_taken x35))) (fun _ => rfl) (fun found_38 => (rg_next found_38 ⟨_, _, rfl⟩))))))))) (fun s39 ρ' h => by obtain ⟨j1_s39, j5_s39, rfl⟩ := h; exact (rg_ret (re_blt1 (re_var s39 (eL (eP2 eI eI)) rfl) u_tupL))))))
def T__law_sets (stand_ : (List (Int × Int))) : M (List (List Int)) :=
  (bnd (bnd (bnd (bnd (rtn ([] : List Int)) szT) fun x1 => bnd (rtn ([] : List (List Int))) fun y2 => rtn (x1 :: y2)) szT) fun found_3 => (bnd (bnd (bnd (bnd (rtn stand_) fun x => rtn (x.length : Int)) rngT1) fun xs => forT (fun (x6 : Int) (s5 : ((List (List Int)))) => (bnd (bnd (rtn s5) fun x29 => bnd (bnd (rtn s5) fun xs => bnd (compT (fun x18 : (List Int) => one (bnd (bnd (bnd (rtn stand_) fun x19 => bnd (rtn x6) fun x20 => atT x19 x20) fun x22 => rtn x22.1) fun x23 => bnd (rtn x18) fun x24 => rtn (!inT x23 x24)) (bnd (rtn x18) fun x27 => bnd (bnd (bnd (rtn x6) fun x25 => bnd (rtn ([] : List Int)) fun y26 => rtn (x25 :: y26)) szT) fun x28 => catT x27 x28)) xs) szT) fun x30 => catT x29 x30) fun found_31 => (rtn found_31))) xs found_3) fun s32 => (rtn s32)))
theorem r__law_sets (stand_ : (List (Int × Int))) : RE (F__law_sets [(eT (eP2 eI eI)) stand_]) (eL (eT eI)) (T__law_sets stand_) :=
  se_fn [some ((eT (eP2 eI eI)) stand_), none, none, none] rfl (sg_newM (fun found_3 => [some ((eT (eP2 eI eI)) stand_), some ((eL (eT eI)) found_3), none, none]) (re_lst (rl_lst (rl_cons (re_tupT (rl_nil (e := eI))) (rl_nil (e := (eT eI)))))) rfl (fun _ => rfl) (fun found_3 => (rg_seq (Rel := (fun (s4 : (List (List Int))) ρ' => ∃ j2, ρ' = [some ((eT (eP2 eI eI)) stand_), some ((eL (eT eI)) s4), j2, none])) (rg_forM (fun (s4 : (List (List Int))) ρ' => ∃ j2, ρ' = [some ((eT (eP2 eI eI)) stand_), some ((eL (eT eI)) s4), j2, none]) (g := (fun (x6 : Int) (s5 : ((List (List Int)))) => (bnd (bnd (rtn s5) fun x29 => bnd (bnd (rtn s5) fun xs => bnd (compT (fun x18 : (List Int) => one (bnd (bnd (bnd (rtn stand_) fun x19 => bnd (rtn x6) fun x20 => atT x19 x20) fun x22 => rtn x22.1) fun x23 => bnd (rtn x18) fun x24 => rtn (!inT x23 x24)) (bnd (rtn x18) fun x27 => bnd (bnd (bnd (rtn x6) fun x25 => bnd (rtn ([] : List Int)) fun y26 => rtn (x25 :: y26)) szT) fun x28 => catT x27 x28)) xs) szT) fun x30 => catT x29 x30) fun found_31 => (rtn found_31)))) found_3 (rl_rng1 (re_blt1 (re_var stand_ (eT (eP2 eI eI)) rfl) u_lenT)) ⟨_, rfl⟩ (fun x6 s5 ρ' h => by obtain ⟨j2_s5, rfl⟩ := h; exact (rg_turn (ρ' := [some ((eT (eP2 eI eI)) stand_), some ((eL (eT eI)) s5), some (eI x6), none]) rfl (rg_last (sg_new (fun found_31 => [some ((eT (eP2 eI eI)) stand_), some ((eL (eT eI)) found_31), some (eI x6), none]) (pi_L (pu_T pu_I)) (re_lst (rl_cat (re_var s5 (eL (eT eI)) rfl) (re_lst (rl_comp (rl_seqL (re_var s5 (eL (eT eI)) rfl)) (fun x18 => turnC_sim (ρ' := [some ((eT (eP2 eI eI)) stand_), some ((eL (eT eI)) s5), some (eI x6), some ((eT eI) x18)]) rfl (rb_of (re_bin bo_notinT (re_p2_0 (re_bin bo_idxT (re_var stand_ (eT (eP2 eI eI)) rfl) (re_var x6 eI rfl))) (re_var x18 (eT eI) rfl))) (re_bin bo_cat (re_var x18 (eT eI) rfl) (re_tupT (rl_cons (re_var x6 eI rfl) (rl_nil (e := eI)))))))))) rfl (fun _ => rfl) (fun found_31 => (rg_next found_31 ⟨_, rfl⟩))))))) (fun s32 ρ' h => by obtain ⟨j2_s32, rfl⟩ := h; exact (rg_ret (re_var s32 (eL (eT eI)) rfl))))))
def T__law_sum (stand_ : (List (Int × Int))) (some_ : (List Int)) : M Int :=
  (bnd (bnd (rtn some_) fun xs => bnd (compT (fun x1 : Int => one (rtn true) (bnd (bnd (rtn stand_) fun x2 => bnd (rtn x1) fun x3 => atT x2 x3) fun x4 => rtn x4.2)) xs) szT) fun x => rtn x.sum)
theorem r__law_sum (stand_ : (List (Int × Int))) (some_ : (List Int)) : RE (F__law_sum [(eT (eP2 eI eI)) stand_, (eT eI) some_]) eI (T__law_sum stand_ some_) :=
  se_fn [some ((eT (eP2 eI eI)) stand_), some ((eT eI) some_), none] rfl (rg_ret (re_blt1 (re_lst (rl_comp (rl_seqT (re_var some_ (eT eI) rfl)) (fun x1 => turnC_sim (ρ' := [some ((eT (eP2 eI eI)) stand_), some ((eT eI) some_), some (eI x1)]) rfl rb_yes (re_p2_1 (re_bin bo_idxT (re_var stand_ (eT (eP2 eI eI)) rfl) (re_var x1 eI rfl)))))) u_sumL))
def T__law_covers (stand_ : (List (Int × Int))) (value_ : (List Int)) : M Bool :=
  (thn (bnd (bnd (bnd (rtn stand_) fun x => rtn (x.length : Int)) rngT1) fun xs => forR (fun (x3 : Int) (s2 : (Unit)) => (bnd (bnd (bnd (rtn value_) fun x4 => bnd (rtn x3) fun x5 => atT x4 x5) fun x15 => bnd (bnd (bnd (bnd (bnd (rtn stand_) fun x => rtn (x.length : Int)) rngT1) fun xs => bnd (compT (fun x6 : Int => one (bnd (bnd (bnd (rtn stand_) fun x7 => bnd (rtn x6) fun x8 => atT x7 x8) fun x10 => rtn x10.1) fun x11 => bnd (rtn x3) fun x12 => rtn (decide (x11 = x12))) (bnd (rtn value_) fun x13 => bnd (rtn x6) fun x14 => atT x13 x14)) xs) szT) fun x => rtn x.sum) fun x16 => rtn (x15 + x16)) fun have_17 => (bnd (bnd (bnd (bnd (rtn (0 : Int)) fun x22 => bnd (bnd (rtn value_) fun x20 => bnd (rtn x3) fun x21 => atT x20 x21) fun x23 => bnd (rtn (decide (x22 ≤ x23))) fun b => if b then bnd (rtn (999 : Int)) fun x24 => rtn (decide (x23 ≤ x24)) else rtn false) fun b => rtn (!b)) fun b => if b then rtn true else (bnd (rtn have_17) fun x29 => bnd (bnd (bnd (rtn stand_) fun x25 => bnd (rtn x3) fun x26 => atT x25 x26) fun x28 => rtn x28.2) fun x30 => rtn (decide (x29 < x30)))) fun c => if c then bnd (rtn false) fun a => rtn (Fw.rt a) else rtn (Fw.nx ())))) xs ()) (fun s31 => (rtn true)) rtn)
theorem r__law_covers (stand_ : (List (Int × Int))) (value_ : (List Int)) : RE (F__law_covers [(eT (eP2 eI eI)) stand_, (eT eI) value_]) eB (T__law_covers stand_ value_) :=
  se_fn [some ((eT (eP2 eI eI)) stand_), some ((eT eI) value_), none, none, none] rfl (rg_seqM (Rel := (fun (s1 : Unit) ρ' => ∃ j2 j3, ρ' = [some ((eT (eP2 eI eI)) stand_), some ((eT eI) value_), j2, j3, none])) (rg_forMR (fun (s1 : Unit) ρ' => ∃ j2 j3, ρ' = [some ((eT (eP2 eI eI)) stand_), some ((eT eI) value_), j2, j3, none]) (g := (fun (x3 : Int) (s2 : (Unit)) => (bnd (bnd (bnd (rtn value_) fun x4 => bnd (rtn x3) fun x5 => atT x4 x5) fun x15 => bnd (bnd (bnd (bnd (bnd (rtn stand_) fun x => rtn (x.length : Int)) rngT1) fun xs => bnd (compT (fun x6 : Int => one (bnd (bnd (bnd (rtn stand_) fun x7 => bnd (rtn x6) fun x8 => atT x7 x8) fun x10 => rtn x10.1) fun x11 => bnd (rtn x3) fun x12 => rtn (decide (x11 = x12))) (bnd (rtn value_) fun x13 => bnd (rtn x6) fun x14 => atT x13 x14)) xs) szT) fun x => rtn x.sum) fun x16 => rtn (x15 + x16)) fun have_17 => (bnd (bnd (bnd (bnd (rtn (0 : Int)) fun x22 => bnd (bnd (rtn value_) fun x20 => bnd (rtn x3) fun x21 => atT x20 x21) fun x23 => bnd (rtn (decide (x22 ≤ x23))) fun b => if b then bnd (rtn (999 : Int)) fun x24 => rtn (decide (x23 ≤ x24)) else rtn false) fun b => rtn (!b)) fun b => if b then rtn true else (bnd (rtn have_17) fun x29 => bnd (bnd (bnd (rtn stand_) fun x25 => bnd (rtn x3) fun x26 => atT x25 x26) fun x28 => rtn x28.2) fun x30 => rtn (decide (x29 < x30)))) fun c => if c then bnd (rtn false) fun a => rtn (Fw.rt a) else rtn (Fw.nx ()))))) () (rl_rng1 (re_blt1 (re_var stand_ (eT (eP2 eI eI)) rfl) u_lenT)) ⟨_, _, rfl⟩ (fun x3 s2 ρ' h => by obtain ⟨j2_s2, j3_s2, rfl⟩ := h; exact (rg_turn (ρ' := [some ((eT (eP2 eI eI)) stand_), some ((eT eI) value_), some (eI x3), j3_s2, none]) rfl (sg_asgM (fun have_17 => [some ((eT (eP2 eI eI)) stand_), some ((eT eI) value_), some (eI x3), some (eI have_17), none]) (re_bin bo_add (re_bin bo_idxT (re_var value_ (eT eI) rfl) (re_var x3 eI rfl)) (re_blt1 (re_lst (rl_comp (rl_rng1 (re_blt1 (re_var stand_ (eT (eP2 eI eI)) rfl) u_lenT)) (fun x6 => turnC_sim (ρ' := [some ((eT (eP2 eI eI)) stand_), some ((eT eI) value_), some (eI x3), j3_s2, some (eI x6)]) rfl (rb_of (re_bin (bo_eq eq_I sh_I) (re_p2_0 (re_bin bo_idxT (re_var stand_ (eT (eP2 eI eI)) rfl) (re_var x6 eI rfl))) (re_var x3 eI rfl))) (re_bin bo_idxT (re_var value_ (eT eI) rfl) (re_var x6 eI rfl))))) u_sumL)) (fun _ => rfl) (fun have_17 => (rg_ifM () (rb_or (rb_not (rb_of (re_chain bo_le bo_le re_int (re_bin bo_idxT (re_var value_ (eT eI) rfl) (re_var x3 eI rfl)) re_int))) (rb_of (re_bin bo_lt (re_var have_17 eI rfl) (re_p2_1 (re_bin bo_idxT (re_var stand_ (eT (eP2 eI eI)) rfl) (re_var x3 eI rfl)))))) (rg_ret re_bool) ⟨_, _, rfl⟩)))))) (fun s31 ρ' h => by obtain ⟨j2_s31, j3_s31, rfl⟩ := h; exact (rg_ret re_bool)))
def T__law_covers_2 (stand_ : (List (Int × Int))) (value_ : (List Int)) : M Bool :=
  (thn (bnd (bnd (bnd (rtn stand_) fun x => rtn (x.length : Int)) rngT1) fun xs => forR (fun (x3 : Int) (s2 : (Unit)) => (bnd (bnd (bnd (rtn value_) fun x4 => bnd (rtn x3) fun x5 => atT x4 x5) fun x15 => bnd (bnd (bnd (bnd (bnd (rtn stand_) fun x => rtn (x.length : Int)) rngT1) fun xs => bnd (compT (fun x6 : Int => one (bnd (bnd (bnd (rtn stand_) fun x7 => bnd (rtn x6) fun x8 => atT x7 x8) fun x10 => rtn x10.1) fun x11 => bnd (rtn x3) fun x12 => rtn (decide (x11 = x12))) (bnd (rtn value_) fun x13 => bnd (rtn x6) fun x14 => atT x13 x14)) xs) szT) fun x => rtn x.sum) fun x16 => rtn (x15 + x16)) fun have_17 => (bnd (bnd (bnd (bnd (rtn (0 : Int)) fun x22 => bnd (bnd (rtn value_) fun x20 => bnd (rtn x3) fun x21 => atT x20 x21) fun x23 => bnd (rtn (decide (x22 ≤ x23))) fun b => if b then bnd (rtn (999 : Int)) fun x24 => rtn (decide (x23 ≤ x24)) else rtn false) fun b => rtn (!b)) fun b => if b then rtn true else (bnd (rtn have_17) fun x29 => bnd (bnd (bnd (rtn stand_) fun x25 => bnd (rtn x3) fun x26 => atT x25 x26) fun x28 => rtn x28.2) fun x30 => rtn (decide (x29 < x30)))) fun c => if c then bnd (rtn false) fun a => rtn (Fw.rt a) else rtn (Fw.nx ())))) xs ()) (fun s31 => (rtn true)) rtn)
theorem r__law_covers_2 (stand_ : (List (Int × Int))) (value_ : (List Int)) : RE (F__law_covers [(eT (eP2 eI eI)) stand_, (eL eI) value_]) eB (T__law_covers_2 stand_ value_) :=
  se_fn [some ((eT (eP2 eI eI)) stand_), some ((eL eI) value_), none, none, none] rfl (rg_seqM (Rel := (fun (s1 : Unit) ρ' => ∃ j2 j3, ρ' = [some ((eT (eP2 eI eI)) stand_), some ((eL eI) value_), j2, j3, none])) (rg_forMR (fun (s1 : Unit) ρ' => ∃ j2 j3, ρ' = [some ((eT (eP2 eI eI)) stand_), some ((eL eI) value_), j2, j3, none]) (g := (fun (x3 : Int) (s2 : (Unit)) => (bnd (bnd (bnd (rtn value_) fun x4 => bnd (rtn x3) fun x5 => atT x4 x5) fun x15 => bnd (bnd (bnd (bnd (bnd (rtn stand_) fun x => rtn (x.length : Int)) rngT1) fun xs => bnd (compT (fun x6 : Int => one (bnd (bnd (bnd (rtn stand_) fun x7 => bnd (rtn x6) fun x8 => atT x7 x8) fun x10 => rtn x10.1) fun x11 => bnd (rtn x3) fun x12 => rtn (decide (x11 = x12))) (bnd (rtn value_) fun x13 => bnd (rtn x6) fun x14 => atT x13 x14)) xs) szT) fun x => rtn x.sum) fun x16 => rtn (x15 + x16)) fun have_17 => (bnd (bnd (bnd (bnd (rtn (0 : Int)) fun x22 => bnd (bnd (rtn value_) fun x20 => bnd (rtn x3) fun x21 => atT x20 x21) fun x23 => bnd (rtn (decide (x22 ≤ x23))) fun b => if b then bnd (rtn (999 : Int)) fun x24 => rtn (decide (x23 ≤ x24)) else rtn false) fun b => rtn (!b)) fun b => if b then rtn true else (bnd (rtn have_17) fun x29 => bnd (bnd (bnd (rtn stand_) fun x25 => bnd (rtn x3) fun x26 => atT x25 x26) fun x28 => rtn x28.2) fun x30 => rtn (decide (x29 < x30)))) fun c => if c then bnd (rtn false) fun a => rtn (Fw.rt a) else rtn (Fw.nx ()))))) () (rl_rng1 (re_blt1 (re_var stand_ (eT (eP2 eI eI)) rfl) u_lenT)) ⟨_, _, rfl⟩ (fun x3 s2 ρ' h => by obtain ⟨j2_s2, j3_s2, rfl⟩ := h; exact (rg_turn (ρ' := [some ((eT (eP2 eI eI)) stand_), some ((eL eI) value_), some (eI x3), j3_s2, none]) rfl (sg_asgM (fun have_17 => [some ((eT (eP2 eI eI)) stand_), some ((eL eI) value_), some (eI x3), some (eI have_17), none]) (re_bin bo_add (re_bin bo_idxL (re_var value_ (eL eI) rfl) (re_var x3 eI rfl)) (re_blt1 (re_lst (rl_comp (rl_rng1 (re_blt1 (re_var stand_ (eT (eP2 eI eI)) rfl) u_lenT)) (fun x6 => turnC_sim (ρ' := [some ((eT (eP2 eI eI)) stand_), some ((eL eI) value_), some (eI x3), j3_s2, some (eI x6)]) rfl (rb_of (re_bin (bo_eq eq_I sh_I) (re_p2_0 (re_bin bo_idxT (re_var stand_ (eT (eP2 eI eI)) rfl) (re_var x6 eI rfl))) (re_var x3 eI rfl))) (re_bin bo_idxL (re_var value_ (eL eI) rfl) (re_var x6 eI rfl))))) u_sumL)) (fun _ => rfl) (fun have_17 => (rg_ifM () (rb_or (rb_not (rb_of (re_chain bo_le bo_le re_int (re_bin bo_idxL (re_var value_ (eL eI) rfl) (re_var x3 eI rfl)) re_int))) (rb_of (re_bin bo_lt (re_var have_17 eI rfl) (re_p2_1 (re_bin bo_idxT (re_var stand_ (eT (eP2 eI eI)) rfl) (re_var x3 eI rfl)))))) (rg_ret re_bool) ⟨_, _, rfl⟩)))))) (fun s31 ρ' h => by obtain ⟨j2_s31, j3_s31, rfl⟩ := h; exact (rg_ret re_bool)))
def T__law_case  : M Bool :=
  (bnd (bnd (rtn ()) fun _ => T__law_stand ) fun stand_1 => (bnd (bnd (rtn stand_1) fun x2 => T__law_sets x2) fun sets_3 => (bnd (bnd (bnd (rtn sets_3) fun xs => bnd (compT (fun x4 : (List Int) => one (rtn true) (bnd (rtn stand_1) fun x5 => bnd (rtn x4) fun x6 => T__law_sum x5 x6)) xs) szT) (maxE eI)) fun most_7 => (bnd (bnd (rtn sets_3) fun xs => bnd (compT (fun x8 : (List Int) => one (bnd (bnd (rtn stand_1) fun x11 => bnd (rtn x8) fun x12 => T__law_sum x11 x12) fun x13 => bnd (rtn most_7) fun x14 => rtn (decide (x13 = x14))) (rtn x8)) xs) szT) fun best_15 => (bnd (bnd (rtn stand_1) fun x16 => T_trees x16) fun found_18 => bnd (bnd (rtn stand_1) fun x17 => T_cover x17) fun over_19 => (bnd (bnd (bnd (bnd (bnd (bnd (rtn stand_1) fun x20 => T_worth x20) fun x => rtn ((fun x : Int => eI x) x)) fun x21 => bnd (bnd (rtn most_7) fun x => rtn ((fun x : Int => eI x) x)) fun x22 => alikeT 8 x21 x22) fun b => rtn (!b)) fun b => if b then rtn true else (bnd (bnd (rtn found_18) fun x23 => bnd (rtn best_15) fun x24 => rtn (!inT x23 x24)) fun b => if b then rtn true else (bnd (bnd (rtn stand_1) fun x25 => bnd (rtn found_18) fun x26 => T_are_trees x25 x26) fun b => rtn (!b)))) fun c => if c then (rtn false) else (bnd (bnd (bnd (bnd (rtn over_19) fun x => rtn (x.length : Int)) fun x27 => bnd (bnd (rtn stand_1) fun x => rtn (x.length : Int)) fun x28 => rtn (!decide (x27 = x28))) fun b => if b then rtn true else (bnd (bnd (bnd (rtn stand_1) fun x29 => bnd (rtn over_19) fun x30 => T__law_covers x29 x30) fun b => rtn (!b)) fun b => if b then rtn true else (bnd (bnd (bnd (rtn over_19) fun x => rtn x.sum) fun x31 => bnd (rtn most_7) fun x32 => rtn (!decide (x31 = x32))) fun b => if b then rtn true else (bnd (bnd (rtn stand_1) fun x33 => bnd (rtn over_19) fun x34 => T_is_cover x33 x34) fun b => rtn (!b))))) fun c => if c then (rtn false) else (bnd (bnd (bnd (bnd (bnd (rtn stand_1) fun x => rtn (x.length : Int)) rngT1) fun xs => bnd (compT (fun x35 : Int => one (bnd (bnd (rtn best_15) fun xs => bnd (compT (fun x39 : (List Int) => one (bnd (rtn x35) fun x40 => bnd (rtn x39) fun x41 => rtn (!inT x40 x41)) (rtn x39)) xs) szT) fun x42 => bnd (bnd (rtn ([] : List (List Int))) szT) fun x43 => rtn (decide (x42 = x43))) (rtn x35)) xs) szT) rtn) fun due_44 => (bnd (bnd (bnd (bnd (bnd (rtn stand_1) fun x45 => T_always x45) fun x => rtn ((fun x : (List Int) => (eT eI) x) x)) fun x46 => bnd (bnd (rtn due_44) fun x => rtn ((fun x : (List Int) => (eT eI) x) x)) fun x47 => alikeT 8 x46 x47) fun b => rtn (!b)) fun c => if c then (rtn false) else (thn (bnd (bnd (rtn (6 : Int)) rngT1) fun xs => forR (fun (x50 : Int) (s49 : (Unit)) => (bnd (bnd (bnd (bnd (bnd (bnd (rtn ()) fun _ => bnd (rtn (5 : Int)) fun x51 => takenT x51) rngT1) fun xs => bnd (compT (fun x52 : Int => one (rtn true) (bnd (rtn ()) fun _ => bnd (bnd (rtn stand_1) fun x => rtn (x.length : Int)) fun x53 => takenT x53)) xs) szT) sortSetT) rtn) fun some_54 => (bnd (bnd (bnd (rtn stand_1) fun x59 => bnd (rtn some_54) fun x60 => T_are_trees x59 x60) fun x63 => bnd (bnd (rtn some_54) fun x61 => bnd (rtn sets_3) fun x62 => rtn (inT x61 x62)) fun x64 => rtn (!decide (x63 = x64))) fun c => if c then bnd (rtn false) fun a => rtn (Fw.rt a) else (bnd (bnd (bnd (rtn some_54) fun x65 => bnd (rtn sets_3) fun x66 => rtn (inT x65 x66)) fun b => if b then (bnd (bnd (bnd (bnd (rtn stand_1) fun x69 => bnd (rtn some_54) fun x70 => T_worth_of x69 x70) fun x => rtn ((fun x : Int => eI x) x)) fun x71 => bnd (bnd (bnd (rtn stand_1) fun x67 => bnd (rtn some_54) fun x68 => T__law_sum x67 x68) fun x => rtn ((fun x : Int => eI x) x)) fun x72 => alikeT 8 x71 x72) fun b => rtn (!b)) else rtn false) fun c => if c then bnd (rtn false) fun a => rtn (Fw.rt a) else (bnd (bnd (bnd (rtn some_54) fun x73 => bnd (rtn sets_3) fun x74 => rtn (!inT x73 x74)) fun b => if b then (bnd (refT (bnd (rtn stand_1) fun x75 => bnd (rtn some_54) fun x76 => T_worth_of x75 x76)) fun x77 => bnd (rtn ("value" : Str)) fun x78 => neG eS x77 x78) else rtn false) fun c => if c then bnd (rtn false) fun a => rtn (Fw.rt a) else (bnd (bnd (rtn over_19) rtn) fun other_79 => (bnd (bnd (rtn ()) fun _ => bnd (bnd (rtn other_79) fun x => rtn (x.length : Int)) fun x80 => takenT x80) fun at_81 => (bnd (bnd (rtn (0 : Int)) fun x => bnd (bnd (rtn (999 : Int)) fun x => bnd (bnd (bnd (bnd (rtn other_79) fun x83 => bnd (rtn at_81) fun x84 => atT x83 x84) fun x86 => bnd (bnd (rtn ()) fun _ => bnd (rtn (5 : Int)) fun x85 => takenT x85) fun x87 => rtn (x86 + x87)) fun x88 => bnd (rtn (2 : Int)) fun x89 => rtn (x88 - x89)) fun y => rtn (min x y)) fun y => rtn (max x y)) fun a => bnd (rtn at_81) fun j => bnd (setT other_79 j a) fun other_82 => (bnd (bnd (bnd (rtn stand_1) fun x94 => bnd (bnd (rtn other_82) rtn) fun x95 => T_is_cover x94 x95) fun x98 => bnd (bnd (rtn stand_1) fun x96 => bnd (rtn other_82) fun x97 => T__law_covers_2 x96 x97) fun x99 => rtn (!decide (x98 = x99))) fun c => if c then bnd (rtn false) fun a => rtn (Fw.rt a) else rtn (Fw.nx ())))))))))) xs ()) (fun s100 => (bnd (bnd (bnd (bnd (bnd (rtn ()) fun x => rtn ((fun x : Unit => eU x) x)) fun x127 => bnd (bnd (bnd (bnd (rtn found_18) rtn) fun x => rtn ((fun x : (List Int) => (eL eI) x) x)) fun x125 => bnd (bnd (bnd (bnd (rtn (0 : Int)) fun x109 => bnd (rtn (0 : Int)) fun x110 => rtn (x109, x110)) fun x => rtn ((fun x : (Int × Int) => (eP2 eI eI) x) x)) fun x123 => bnd (bnd (bnd (bnd (rtn stand_1) fun x => rtn (x.length : Int)) fun x => rtn ((fun x : Int => (eP1 eI) x) x)) fun x121 => bnd (bnd (bnd (bnd (rtn (1 : Int)) fun x => rtn (-x)) fun x => rtn ((fun x : Int => (eP1 eI) x) x)) fun x119 => bnd (bnd (bnd (rtn false) fun x => rtn ((fun x : Bool => (eP1 eB) x) x)) fun x117 => bnd (rtn ([] : List PyData)) fun y118 => rtn (x117 :: y118)) fun y120 => rtn (x119 :: y120)) fun y122 => rtn (x121 :: y122)) fun y124 => rtn (x123 :: y124)) fun y126 => rtn (x125 :: y126)) fun y128 => rtn (x127 :: y128)) szT) fun xs => bnd (compT (fun x129 : PyData => one (rtn true) (bnd (rtn stand_1) fun x130 => bnd (rtn x129) fun x131 => asB (rawM F_are_trees [(eT (eP2 eI eI)) x130, eA x131]))) xs) szT) fun wrong_132 => (bnd (bnd (rtn wrong_132) fun x197 => bnd (bnd (bnd (bnd (bnd (rtn ()) fun x => rtn ((fun x : Unit => eU x) x)) fun x192 => bnd (bnd (bnd (bnd (rtn over_19) rtn) fun x => rtn ((fun x : (List Int) => (eL eI) x) x)) fun x190 => bnd (bnd (bnd (bnd (rtn over_19) fun x153 => bnd (bnd (bnd (rtn (0 : Int)) fun x141 => bnd (rtn ([] : List Int)) fun y142 => rtn (x141 :: y142)) szT) fun x154 => catT x153 x154) fun x => rtn ((fun x : (List Int) => (eT eI) x) x)) fun x188 => bnd (bnd (bnd (bnd (bnd (bnd (bnd (rtn (1 : Int)) fun x => rtn (-x)) fun x137 => bnd (rtn ([] : List Int)) fun y138 => rtn (x137 :: y138)) szT) fun x149 => bnd (bnd (rtn stand_1) fun x => rtn (x.length : Int)) fun x150 => repT x149 x150) fun x => rtn ((fun x : (List Int) => (eT eI) x) x)) fun x186 => bnd (bnd (bnd (bnd (bnd (bnd (rtn (1000 : Int)) fun x133 => bnd (rtn ([] : List Int)) fun y134 => rtn (x133 :: y134)) szT) fun x145 => bnd (bnd (rtn stand_1) fun x => rtn (x.length : Int)) fun x146 => repT x145 x146) fun x => rtn ((fun x : (List Int) => (eT eI) x) x)) fun x184 => bnd (rtn ([] : List PyData)) fun y185 => rtn (x184 :: y185)) fun y187 => rtn (x186 :: y187)) fun y189 => rtn (x188 :: y189)) fun y191 => rtn (x190 :: y191)) fun y193 => rtn (x192 :: y193)) szT) fun xs => bnd (compT (fun x194 : PyData => one (rtn true) (bnd (rtn stand_1) fun x195 => bnd (rtn x194) fun x196 => asB (rawM F_is_cover [(eT (eP2 eI eI)) x195, eA x196]))) xs) szT) fun x198 => catT x197 x198) fun wrong_199 => (bnd (bnd (rtn ()) fun _ => bnd (bnd (bnd (bnd (rtn ()) fun x => rtn ((fun x : Unit => eU x) x)) fun x244 => bnd (bnd (bnd (bnd (rtn ([] : List PyData)) szT) fun x => rtn (eT eA x)) fun x242 => bnd (bnd (bnd (bnd (rtn (0 : Int)) fun x222 => bnd (rtn (1 : Int)) fun x223 => rtn (x222, x223)) fun x => rtn ((fun x : (Int × Int) => (eP1 (eP2 eI eI)) x) x)) fun x240 => bnd (bnd (bnd (bnd (bnd (rtn (2 : Int)) fun x => rtn (-x)) fun x220 => bnd (rtn (1 : Int)) fun x221 => rtn (x220, x221)) fun x => rtn ((fun x : (Int × Int) => (eP1 (eP2 eI eI)) x) x)) fun x238 => bnd (bnd (bnd (bnd (bnd (rtn (1 : Int)) fun x => rtn (-x)) fun x218 => bnd (rtn (1000 : Int)) fun x219 => rtn (x218, x219)) fun x => rtn ((fun x : (Int × Int) => (eP1 (eP2 eI eI)) x) x)) fun x236 => bnd (bnd (bnd (bnd (bnd (rtn (1 : Int)) fun x => rtn (-x)) fun x216 => bnd (bnd (rtn (1 : Int)) fun x => rtn (-x)) fun x217 => rtn (x216, x217)) fun x => rtn ((fun x : (Int × Int) => (eP1 (eP2 eI eI)) x) x)) fun x234 => bnd (bnd (bnd (bnd (bnd (bnd (bnd (rtn (1 : Int)) fun x => rtn (-x)) fun x212 => bnd (rtn (1 : Int)) fun x213 => rtn (x212, x213)) fun x230 => bnd (rtn ([] : List (Int × Int))) fun y231 => rtn (x230 :: y231)) szT) fun x => rtn ((fun x : (List (Int × Int)) => (eL (eP2 eI eI)) x) x)) fun x232 => bnd (bnd (bnd (bnd (bnd (bnd (bnd (bnd (rtn (1 : Int)) fun x => rtn (-x)) fun x204 => bnd (rtn (1 : Int)) fun x205 => rtn (x204, x205)) fun x206 => bnd (rtn ([] : List (Int × Int))) fun y207 => rtn (x206 :: y207)) szT) fun x226 => bnd (rtn (17 : Int)) fun x227 => repT x226 x227) fun x => rtn ((fun x : (List (Int × Int)) => (eT (eP2 eI eI)) x) x)) fun x228 => bnd (bnd (bnd (bnd (bnd (rtn (1 : Int)) fun x => rtn (-x)) fun x200 => bnd (rtn true) fun x201 => rtn (x200, x201)) fun x => rtn ((fun x : (Int × Bool) => (eP1 (eP2 eI eB)) x) x)) fun x224 => bnd (rtn ([] : List PyData)) fun y225 => rtn (x224 :: y225)) fun y229 => rtn (x228 :: y229)) fun y233 => rtn (x232 :: y233)) fun y235 => rtn (x234 :: y235)) fun y237 => rtn (x236 :: y237)) fun y239 => rtn (x238 :: y239)) fun y241 => rtn (x240 :: y241)) fun y243 => rtn (x242 :: y243)) fun y245 => rtn (x244 :: y245)) szT) fun x246 => pickT x246) fun odd_247 => (bnd (bnd (bnd (refT (bnd (rtn odd_247) fun x255 => rawM F_trees [eA x255])) fun x266 => bnd (bnd (refT (bnd (rtn odd_247) fun x254 => rawM F_worth [eA x254])) fun x264 => bnd (bnd (refT (bnd (rtn odd_247) fun x253 => rawM F_cover [eA x253])) fun x262 => bnd (bnd (refT (bnd (rtn odd_247) fun x252 => rawM F_always [eA x252])) fun x260 => bnd (bnd (refT (bnd (rtn odd_247) fun x250 => bnd (bnd (rtn ([] : List PyData)) szT) fun x251 => asB (rawM F_are_trees [eA x250, (eT eA) x251]))) fun x258 => bnd (bnd (refT (bnd (rtn odd_247) fun x248 => bnd (bnd (rtn ([] : List PyData)) szT) fun x249 => asB (rawM F_is_cover [eA x248, (eT eA) x249]))) fun x256 => bnd (rtn ([] : List Str)) fun y257 => rtn (x256 :: y257)) fun y259 => rtn (x258 :: y259)) fun y261 => rtn (x260 :: y261)) fun y263 => rtn (x262 :: y263)) fun y265 => rtn (x264 :: y265)) fun y267 => rtn (x266 :: y267)) szT) fun told_268 => (bnd (bnd (rtn wrong_199) fun x277 => bnd (bnd (bnd (bnd (rtn false) fun x271 => bnd (rtn ([] : List Bool)) fun y272 => rtn (x271 :: y272)) szT) fun x275 => bnd (rtn (11 : Int)) fun x276 => repN2 x275 x276) fun x278 => rtn (decide (x277 = x278))) fun b => if b then (bnd (rtn told_268) fun x287 => bnd (bnd (bnd (bnd (rtn ("stand" : Str)) fun x281 => bnd (rtn ([] : List Str)) fun y282 => rtn (x281 :: y282)) szT) fun x285 => bnd (rtn (6 : Int)) fun x286 => repN2 x285 x286) fun x288 => eqG (eL eS) x287 x288) else rtn false)))))) rtn))))))))))
theorem r__law_case  : RE (F__law_case [rowD]) eB (T__law_case ) :=
  se_fn [some rowD, none, none, none, none, none, none, none, none, none, none, none, none, none, none, none] rfl (sg_asgM (fun stand_1 => [some rowD, some ((eT (eP2 eI eI)) stand_1), none, none, none, none, none, none, none, none, none, none, none, none, none, none]) (rc_1 (re_var () (fun _ => rowD) rfl) (fun _ => r__law_stand )) (fun _ => rfl) (fun stand_1 => (sg_asgM (fun sets_3 => [some rowD, some ((eT (eP2 eI eI)) stand_1), some ((eL (eT eI)) sets_3), none, none, none, none, none, none, none, none, none, none, none, none, none]) (rc_1 (re_var stand_1 (eT (eP2 eI eI)) rfl) (fun x2 => r__law_sets x2)) (fun _ => rfl) (fun sets_3 => (sg_asgM (fun most_7 => [some rowD, some ((eT (eP2 eI eI)) stand_1), some ((eL (eT eI)) sets_3), some (eI most_7), none, none, none, none, none, none, none, none, none, none, none, none]) (re_blt1 (re_lst (rl_comp (rl_seqL (re_var sets_3 (eL (eT eI)) rfl)) (fun x4 => turnC_sim (ρ' := [some rowD, some ((eT (eP2 eI eI)) stand_1), some ((eL (eT eI)) sets_3), none, none, none, none, none, none, none, none, none, some ((eT eI) x4), none, none, none]) rfl rb_yes (rc_2 (re_var stand_1 (eT (eP2 eI eI)) rfl) (re_var x4 (eT eI) rfl) (fun x5 x6 => r__law_sum x5 x6))))) (u_maxL ht_I sh_I)) (fun _ => rfl) (fun most_7 => (sg_newM (fun best_15 => [some rowD, some ((eT (eP2 eI eI)) stand_1), some ((eL (eT eI)) sets_3), some (eI most_7), some ((eL (eT eI)) best_15), none, none, none, none, none, none, none, none, none, none, none]) (re_lst (rl_comp (rl_seqL (re_var sets_3 (eL (eT eI)) rfl)) (fun x8 => turnC_sim (ρ' := [some rowD, some ((eT (eP2 eI eI)) stand_1), some ((eL (eT eI)) sets_3), some (eI most_7), none, none, none, none, none, none, none, none, some ((eT eI) x8), none, none, none]) rfl (rb_of (re_bin (bo_eq eq_I sh_I) (rc_2 (re_var stand_1 (eT (eP2 eI eI)) rfl) (re_var x8 (eT eI) rfl) (fun x11 x12 => r__law_sum x11 x12)) (re_var most_7 eI rfl))) (re_var x8 (eT eI) rfl)))) rfl (fun _ => rfl) (fun best_15 => (sg_par2 (fun found_18 over_19 => [some rowD, some ((eT (eP2 eI eI)) stand_1), some ((eL (eT eI)) sets_3), some (eI most_7), some ((eL (eT eI)) best_15), none, none, none, none, none, some ((eT eI) found_18), some ((eT eI) over_19), none, none, none, none]) rfl (rc_1 (re_var stand_1 (eT (eP2 eI eI)) rfl) (fun x16 => r_trees x16)) (rc_1 (re_var stand_1 (eT (eP2 eI eI)) rfl) (fun x17 => r_cover x17)) (fun _ _ => rfl) (fun found_18 over_19 => (rg_ifR (rb_or (rb_not (rb_of (rc_2 (re_as (e := eI) (e' := eA) (fun x : Int => eI x) (fun _ => rfl) (rc_1 (re_var stand_1 (eT (eP2 eI eI)) rfl) (fun x20 => r_worth x20))) (re_as (e := eI) (e' := eA) (fun x : Int => eI x) (fun _ => rfl) (re_var most_7 eI rfl)) r__law_alike))) (rb_or (rb_of (re_bin (bo_notin (eq_T eq_I) (sh_T sh_I) (sh_T sh_I)) (re_var found_18 (eT eI) rfl) (re_var best_15 (eL (eT eI)) rfl))) (rb_not (rb_of (rc_2 (re_var stand_1 (eT (eP2 eI eI)) rfl) (re_var found_18 (eT eI) rfl) (fun x25 x26 => r_are_trees x25 x26)))))) (rg_ret re_bool) (rg_ifR (rb_or (rb_of (re_bin (bo_ne eq_I sh_I) (re_blt1 (re_var over_19 (eT eI) rfl) u_lenT) (re_blt1 (re_var stand_1 (eT (eP2 eI eI)) rfl) u_lenT))) (rb_or (rb_not (rb_of (rc_2 (re_var stand_1 (eT (eP2 eI eI)) rfl) (re_var over_19 (eT eI) rfl) (fun x29 x30 => r__law_covers x29 x30)))) (rb_or (rb_of (re_bin (bo_ne eq_I sh_I) (re_blt1 (re_var over_19 (eT eI) rfl) u_sumT) (re_var most_7 eI rfl))) (rb_not (rb_of (rc_2 (re_var stand_1 (eT (eP2 eI eI)) rfl) (re_var over_19 (eT eI) rfl) (fun x33 x34 => r_is_cover x33 x34))))))) (rg_ret re_bool) (sg_asg (fun due_44 => [some rowD, some ((eT (eP2 eI eI)) stand_1), some ((eL (eT eI)) sets_3), some (eI most_7), some ((eL (eT eI)) best_15), some ((eT eI) due_44), none, none, none, none, some ((eT eI) found_18), some ((eT eI) over_19), none, none, none, none]) (pu_T pu_I) (re_blt1 (re_lst (rl_comp (rl_rng1 (re_blt1 (re_var stand_1 (eT (eP2 eI eI)) rfl) u_lenT)) (fun x35 => turnC_sim (ρ' := [some rowD, some ((eT (eP2 eI eI)) stand_1), some ((eL (eT eI)) sets_3), some (eI most_7), some ((eL (eT eI)) best_15), none, none, none, none, none, some ((eT eI) found_18), some ((eT eI) over_19), none, none, some (eI x35), none]) rfl (rb_of (re_bin (bo_eq (eq_L (eq_T eq_I)) (sh_L (sh_T sh_I))) (re_lst (rl_comp (rl_seqL (re_var best_15 (eL (eT eI)) rfl)) (fun x39 => turnC_sim (ρ' := [some rowD, some ((eT (eP2 eI eI)) stand_1), some ((eL (eT eI)) sets_3), some (eI most_7), some ((eL (eT eI)) best_15), none, none, none, none, none, some ((eT eI) found_18), some ((eT eI) over_19), some ((eT eI) x39), none, some (eI x35), none]) rfl (rb_of (re_bin bo_notinT (re_var x35 eI rfl) (re_var x39 (eT eI) rfl))) (re_var x39 (eT eI) rfl)))) (re_lst (rl_lst (rl_nil (e := (eT eI))))))) (re_var x35 eI rfl)))) u_tupL) (fun _ => rfl) (fun due_44 => (rg_ifR (rb_not (rb_of (rc_2 (re_as (e := (eT eI)) (e' := eA) (fun x : (List Int) => (eT eI) x) (fun _ => rfl) (rc_1 (re_var stand_1 (eT (eP2 eI eI)) rfl) (fun x45 => r_always x45))) (re_as (e := (eT eI)) (e' := eA) (fun x : (List Int) => (eT eI) x) (fun _ => rfl) (re_var due_44 (eT eI) rfl)) r__law_alike))) (rg_ret re_bool) (rg_seqM (Rel := (fun (s48 : Unit) ρ' => ∃ j6 j12 j13 j14, ρ' = [some rowD, some ((eT (eP2 eI eI)) stand_1), some ((eL (eT eI)) sets_3), some (eI most_7), some ((eL (eT eI)) best_15), some ((eT eI) due_44), j6, none, none, none, some ((eT eI) found_18), some ((eT eI) over_19), j12, j13, j14, none])) (rg_forMR (fun (s48 : Unit) ρ' => ∃ j6 j12 j13 j14, ρ' = [some rowD, some ((eT (eP2 eI eI)) stand_1), some ((eL (eT eI)) sets_3), some (eI most_7), some ((eL (eT eI)) best_15), some ((eT eI) due_44), j6, none, none, none, some ((eT eI) found_18), some ((eT eI) over_19), j12, j13, j14, none]) (g := (fun (x50 : Int) (s49 : (Unit)) => (bnd (bnd (bnd (bnd (bnd (bnd (rtn ()) fun _ => bnd (rtn (5 : Int)) fun x51 => takenT x51) rngT1) fun xs => bnd (compT (fun x52 : Int => one (rtn true) (bnd (rtn ()) fun _ => bnd (bnd (rtn stand_1) fun x => rtn (x.length : Int)) fun x53 => takenT x53)) xs) szT) sortSetT) rtn) fun some_54 => (bnd (bnd (bnd (rtn stand_1) fun x59 => bnd (rtn some_54) fun x60 => T_are_trees x59 x60) fun x63 => bnd (bnd (rtn some_54) fun x61 => bnd (rtn sets_3) fun x62 => rtn (inT x61 x62)) fun x64 => rtn (!decide (x63 = x64))) fun c => if c then bnd (rtn false) fun a => rtn (Fw.rt a) else (bnd (bnd (bnd (rtn some_54) fun x65 => bnd (rtn sets_3) fun x66 => rtn (inT x65 x66)) fun b => if b then (bnd (bnd (bnd (bnd (rtn stand_1) fun x69 => bnd (rtn some_54) fun x70 => T_worth_of x69 x70) fun x => rtn ((fun x : Int => eI x) x)) fun x71 => bnd (bnd (bnd (rtn stand_1) fun x67 => bnd (rtn some_54) fun x68 => T__law_sum x67 x68) fun x => rtn ((fun x : Int => eI x) x)) fun x72 => alikeT 8 x71 x72) fun b => rtn (!b)) else rtn false) fun c => if c then bnd (rtn false) fun a => rtn (Fw.rt a) else (bnd (bnd (bnd (rtn some_54) fun x73 => bnd (rtn sets_3) fun x74 => rtn (!inT x73 x74)) fun b => if b then (bnd (refT (bnd (rtn stand_1) fun x75 => bnd (rtn some_54) fun x76 => T_worth_of x75 x76)) fun x77 => bnd (rtn ("value" : Str)) fun x78 => neG eS x77 x78) else rtn false) fun c => if c then bnd (rtn false) fun a => rtn (Fw.rt a) else (bnd (bnd (rtn over_19) rtn) fun other_79 => (bnd (bnd (rtn ()) fun _ => bnd (bnd (rtn other_79) fun x => rtn (x.length : Int)) fun x80 => takenT x80) fun at_81 => (bnd (bnd (rtn (0 : Int)) fun x => bnd (bnd (rtn (999 : Int)) fun x => bnd (bnd (bnd (bnd (rtn other_79) fun x83 => bnd (rtn at_81) fun x84 => atT x83 x84) fun x86 => bnd (bnd (rtn ()) fun _ => bnd (rtn (5 : Int)) fun x85 => takenT x85) fun x87 => rtn (x86 + x87)) fun x88 => bnd (rtn (2 : Int)) fun x89 => rtn (x88 - x89)) fun y => rtn (min x y)) fun y => rtn (max x y)) fun a => bnd (rtn at_81) fun j => bnd (setT other_79 j a) fun other_82 => (bnd (bnd (bnd (rtn stand_1) fun x94 => bnd (bnd (rtn other_82) rtn) fun x95 => T_is_cover x94 x95) fun x98 => bnd (bnd (rtn stand_1) fun x96 => bnd (rtn other_82) fun x97 => T__law_covers_2 x96 x97) fun x99 => rtn (!decide (x98 = x99))) fun c => if c then bnd (rtn false) fun a => rtn (Fw.rt a) else rtn (Fw.nx ()))))))))))) () (rl_rng1 re_int) ⟨_, _, _, _, rfl⟩ (fun x50 s49 ρ' h => by obtain ⟨j6_s49, j12_s49, j13_s49, j14_s49, rfl⟩ := h; exact (rg_turn (ρ' := [some rowD, some ((eT (eP2 eI eI)) stand_1), some ((eL (eT eI)) sets_3), some (eI most_7), some ((eL (eT eI)) best_15), some ((eT eI) due_44), some (eI x50), none, none, none, some ((eT eI) found_18), some ((eT eI) over_19), j12_s49, j13_s49, j14_s49, none]) rfl (sg_asgM (fun some_54 => [some rowD, some ((eT (eP2 eI eI)) stand_1), some ((eL (eT eI)) sets_3), some (eI most_7), some ((eL (eT eI)) best_15), some ((eT eI) due_44), some (eI x50), none, none, none, some ((eT eI) found_18), some ((eT eI) over_19), some ((eT eI) some_54), j13_s49, j14_s49, none]) (re_blt1 (re_lst (rl_blt1 (re_lst (rl_comp (rl_rng1 (rc_2 (re_var () (fun _ => rowD) rfl) re_int (fun _ x51 => r__law_taken x51))) (fun x52 => turnC_sim (ρ' := [some rowD, some ((eT (eP2 eI eI)) stand_1), some ((eL (eT eI)) sets_3), some (eI most_7), none, some ((eT eI) due_44), some (eI x50), none, none, none, some ((eT eI) found_18), some ((eT eI) over_19), j12_s49, j13_s49, some (eI x52), none]) rfl rb_yes (rc_2 (re_var () (fun _ => rowD) rfl) (re_blt1 (re_var stand_1 (eT (eP2 eI eI)) rfl) u_lenT) (fun _ x53 => r__law_taken x53))))) ul_sortSetL)) u_tupL) (fun _ => rfl) (fun some_54 => (rg_ifRM (rb_of (re_bin bo_notB (re_kw (l' := (lCons (dVar 1) (lCons (dVar 12) lNil))) (rc_2 (re_var stand_1 (eT (eP2 eI eI)) rfl) (re_var some_54 (eT eI) rfl) (fun x59 x60 => r_are_trees x59 x60)) (by simp only [app_cons, app_nil])) (re_bin (bo_in (eq_T eq_I) (sh_T sh_I) (sh_T sh_I)) (re_var some_54 (eT eI) rfl) (re_var sets_3 (eL (eT eI)) rfl)))) (rg_ret re_bool) (rg_ifRM (rb_and (rb_of (re_bin (bo_in (eq_T eq_I) (sh_T sh_I) (sh_T sh_I)) (re_var some_54 (eT eI) rfl) (re_var sets_3 (eL (eT eI)) rfl))) (rb_not (rb_of (rc_2 (re_as (e := eI) (e' := eA) (fun x : Int => eI x) (fun _ => rfl) (rc_2 (re_var stand_1 (eT (eP2 eI eI)) rfl) (re_var some_54 (eT eI) rfl) (fun x69 x70 => r_worth_of x69 x70))) (re_as (e := eI) (e' := eA) (fun x : Int => eI x) (fun _ => rfl) (rc_2 (re_var stand_1 (eT (eP2 eI eI)) rfl) (re_var some_54 (eT eI) rfl) (fun x67 x68 => r__law_sum x67 x68))) r__law_alike)))) (rg_ret re_bool) (rg_ifRM (rb_and (rb_of (re_bin (bo_notin (eq_T eq_I) (sh_T sh_I) (sh_T sh_I)) (re_var some_54 (eT eI) rfl) (re_var sets_3 (eL (eT eI)) rfl))) (rb_of (re_bin (bo_neG eq_S) (re_ref (rc_2 (re_var stand_1 (eT (eP2 eI eI)) rfl) (re_var some_54 (eT eI) rfl) (fun x75 x76 => r_worth_of x75 x76))) re_str))) (rg_ret re_bool) (sg_newM (fun other_79 => [some rowD, some ((eT (eP2 eI eI)) stand_1), some ((eL (eT eI)) sets_3), some (eI most_7), some ((eL (eT eI)) best_15), some ((eT eI) due_44), some (eI x50), none, none, none, some ((eT eI) found_18), some ((eT eI) over_19), some ((eT eI) some_54), some ((eL eI) other_79), j14_s49, none]) (re_lst (rl_blt1 (re_var over_19 (eT eI) rfl) ul_listT)) rfl (fun _ => rfl) (fun other_79 => (sg_asg (fun at_81 => [some rowD, some ((eT (eP2 eI eI)) stand_1), some ((eL (eT eI)) sets_3), some (eI most_7), some ((eL (eT eI)) best_15), some ((eT eI) due_44), some (eI x50), none, none, none, some ((eT eI) found_18), some ((eT eI) over_19), some ((eT eI) some_54), some ((eL eI) other_79), some (eI at_81), none]) pu_I (rc_2 (re_var () (fun _ => rowD) rfl) (re_blt1 (re_var other_79 (eL eI) rfl) u_lenL) (fun _ x80 => r__law_taken x80)) (fun _ => rfl) (fun at_81 => (sg_setI other_79 (fun other_82 => [some rowD, some ((eT (eP2 eI eI)) stand_1), some ((eL (eT eI)) sets_3), some (eI most_7), some ((eL (eT eI)) best_15), some ((eT eI) due_44), some (eI x50), none, none, none, some ((eT eI) found_18), some ((eT eI) over_19), some ((eT eI) some_54), some ((eL eI) other_82), some (eI at_81), none]) rfl pu_I (re_blt2 re_int (re_blt2 re_int (re_bin bo_sub (re_bin bo_add (re_bin bo_idxL (re_var other_79 (eL eI) rfl) (re_var at_81 eI rfl)) (rc_2 (re_var () (fun _ => rowD) rfl) re_int (fun _ x85 => r__law_taken x85))) re_int) u_min2) u_max2) (re_var at_81 eI rfl) (fun _ => rfl) (fun other_82 => (rg_ifM () (rb_of (re_bin bo_notB (re_kw (l' := (lCons (dVar 1) (lCons (dBlt tupleD (lCons (dVar 13) lNil)) lNil))) (rc_2 (re_var stand_1 (eT (eP2 eI eI)) rfl) (re_blt1 (re_var other_82 (eL eI) rfl) u_tupL) (fun x94 x95 => r_is_cover x94 x95)) (by simp only [app_cons, app_nil])) (rc_2 (re_var stand_1 (eT (eP2 eI eI)) rfl) (re_var other_82 (eL eI) rfl) (fun x96 x97 => r__law_covers_2 x96 x97)))) (rg_ret re_bool) ⟨_, _, _, _, rfl⟩))))))))))))))) (fun s100 ρ' h => by obtain ⟨j6_s100, j12_s100, j13_s100, j14_s100, rfl⟩ := h; exact (sg_newM (fun wrong_132 => [some rowD, some ((eT (eP2 eI eI)) stand_1), some ((eL (eT eI)) sets_3), some (eI most_7), some ((eL (eT eI)) best_15), some ((eT eI) due_44), j6_s100, some ((eL eB) wrong_132), none, none, some ((eT eI) found_18), some ((eT eI) over_19), j12_s100, j13_s100, j14_s100, none]) (re_lst (rl_comp (rl_seqT (e := eA) (re_tupT (rl_cons (re_as (e := eU) (e' := eA) (fun x : Unit => eU x) (fun _ => rfl) re_none) (rl_cons (re_as (e := (eL eI)) (e' := eA) (fun x : (List Int) => (eL eI) x) (fun _ => rfl) (re_lst (rl_blt1 (re_var found_18 (eT eI) rfl) ul_listT))) (rl_cons (re_as (e := (eP2 eI eI)) (e' := eA) (fun x : (Int × Int) => (eP2 eI eI) x) (fun _ => rfl) (re_tup2 re_int re_int)) (rl_cons (re_as (e := (eP1 eI)) (e' := eA) (fun x : Int => (eP1 eI) x) (fun _ => rfl) (re_tup1 (re_blt1 (re_var stand_1 (eT (eP2 eI eI)) rfl) u_lenT))) (rl_cons (re_as (e := (eP1 eI)) (e' := eA) (fun x : Int => (eP1 eI) x) (fun _ => rfl) (re_tup1 (re_un uo_neg re_int))) (rl_cons (re_as (e := (eP1 eB)) (e' := eA) (fun x : Bool => (eP1 eB) x) (fun _ => rfl) (re_tup1 re_bool)) (rl_nil (e := eA)))))))))) (fun x129 => turnC_sim (ρ' := [some rowD, some ((eT (eP2 eI eI)) stand_1), some ((eL (eT eI)) sets_3), some (eI most_7), none, some ((eT eI) due_44), j6_s100, none, none, none, some ((eT eI) found_18), some ((eT eI) over_19), j12_s100, j13_s100, j14_s100, some (eA x129)]) rfl rb_yes (rc_2 (re_var stand_1 (eT (eP2 eI eI)) rfl) (re_var x129 eA rfl) (fun _ _ => re_asB re_raw))))) rfl (fun _ => rfl) (fun wrong_132 => (sg_new (fun wrong_199 => [some rowD, some ((eT (eP2 eI eI)) stand_1), some ((eL (eT eI)) sets_3), some (eI most_7), some ((eL (eT eI)) best_15), some ((eT eI) due_44), j6_s100, some ((eL eB) wrong_199), none, none, some ((eT eI) found_18), some ((eT eI) over_19), j12_s100, j13_s100, j14_s100, none]) (pi_L pu_B) (re_lst (rl_cat (re_var wrong_132 (eL eB) rfl) (re_lst (rl_comp (rl_seqT (e := eA) (re_tupT (rl_cons (re_as (e := eU) (e' := eA) (fun x : Unit => eU x) (fun _ => rfl) re_none) (rl_cons (re_as (e := (eL eI)) (e' := eA) (fun x : (List Int) => (eL eI) x) (fun _ => rfl) (re_lst (rl_blt1 (re_var over_19 (eT eI) rfl) ul_listT))) (rl_cons (re_as (e := (eT eI)) (e' := eA) (fun x : (List Int) => (eT eI) x) (fun _ => rfl) (re_bin bo_cat (re_var over_19 (eT eI) rfl) (re_tupT (rl_cons re_int (rl_nil (e := eI)))))) (rl_cons (re_as (e := (eT eI)) (e' := eA) (fun x : (List Int) => (eT eI) x) (fun _ => rfl) (re_bin bo_rep (re_tupT (rl_cons (re_un uo_neg re_int) (rl_nil (e := eI)))) (re_blt1 (re_var stand_1 (eT (eP2 eI eI)) rfl) u_lenT))) (rl_cons (re_as (e := (eT eI)) (e' := eA) (fun x : (List Int) => (eT eI) x) (fun _ => rfl) (re_bin bo_rep (re_tupT (rl_cons re_int (rl_nil (e := eI)))) (re_blt1 (re_var stand_1 (eT (eP2 eI eI)) rfl) u_lenT))) (rl_nil (e := eA))))))))) (fun x194 => turnC_sim (ρ' := [some rowD, some ((eT (eP2 eI eI)) stand_1), some ((eL (eT eI)) sets_3), some (eI most_7), some ((eL (eT eI)) best_15), some ((eT eI) due_44), j6_s100, some ((eL eB) wrong_132), none, none, some ((eT eI) found_18), some ((eT eI) over_19), j12_s100, j13_s100, j14_s100, some (eA x194)]) rfl rb_yes (rc_2 (re_var stand_1 (eT (eP2 eI eI)) rfl) (re_var x194 eA rfl) (fun _ _ => re_asB re_raw))))))) rfl (fun _ => rfl) (fun wrong_199 => (sg_asgM (fun odd_247 => [some rowD, some ((eT (eP2 eI eI)) stand_1), some ((eL (eT eI)) sets_3), some (eI most_7), some ((eL (eT eI)) best_15), some ((eT eI) due_44), j6_s100, some ((eL eB) wrong_199), some (eA odd_247), none, some ((eT eI) found_18), some ((eT eI) over_19), j12_s100, j13_s100, j14_s100, none]) (rc_2 (re_var () (fun _ => rowD) rfl) (re_lst (rl_lst (rl_cons (re_as (e := eU) (e' := eA) (fun x : Unit => eU x) (fun _ => rfl) re_none) (rl_cons (re_as (e' := eA) (eT eA) (fun _ => rfl) (re_tupT (rl_nil (e := eA)))) (rl_cons (re_as (e := (eP1 (eP2 eI eI))) (e' := eA) (fun x : (Int × Int) => (eP1 (eP2 eI eI)) x) (fun _ => rfl) (re_tup1 (re_tup2 re_int re_int))) (rl_cons (re_as (e := (eP1 (eP2 eI eI))) (e' := eA) (fun x : (Int × Int) => (eP1 (eP2 eI eI)) x) (fun _ => rfl) (re_tup1 (re_tup2 (re_un uo_neg re_int) re_int))) (rl_cons (re_as (e := (eP1 (eP2 eI eI))) (e' := eA) (fun x : (Int × Int) => (eP1 (eP2 eI eI)) x) (fun _ => rfl) (re_tup1 (re_tup2 (re_un uo_neg re_int) re_int))) (rl_cons (re_as (e := (eP1 (eP2 eI eI))) (e' := eA) (fun x : (Int × Int) => (eP1 (eP2 eI eI)) x) (fun _ => rfl) (re_tup1 (re_tup2 (re_un uo_neg re_int) (re_un uo_neg re_int)))) (rl_cons (re_as (e := (eL (eP2 eI eI))) (e' := eA) (fun x : (List (Int × Int)) => (eL (eP2 eI eI)) x) (fun _ => rfl) (re_lst (rl_lst (rl_cons (re_tup2 (re_un uo_neg re_int) re_int) (rl_nil (e := (eP2 eI eI))))))) (rl_cons (re_as (e := (eT (eP2 eI eI))) (e' := eA) (fun x : (List (Int × Int)) => (eT (eP2 eI eI)) x) (fun _ => rfl) (re_bin bo_rep (re_tupT (rl_cons (re_tup2 (re_un uo_neg re_int) re_int) (rl_nil (e := (eP2 eI eI))))) re_int)) (rl_cons (re_as (e := (eP1 (eP2 eI eB))) (e' := eA) (fun x : (Int × Bool) => (eP1 (eP2 eI eB)) x) (fun _ => rfl) (re_tup1 (re_tup2 (re_un uo_neg re_int) re_bool))) (rl_nil (e := eA))))))))))))) (fun _ xs => r__law_pick xs)) (fun _ => rfl) (fun odd_247 => (sg_newM (fun told_268 => [some rowD, some ((eT (eP2 eI eI)) stand_1), some ((eL (eT eI)) sets_3), some (eI most_7), some ((eL (eT eI)) best_15), some ((eT eI) due_44), j6_s100, some ((eL eB) wrong_199), some (eA odd_247), some ((eL eS) told_268), some ((eT eI) found_18), some ((eT eI) over_19), j12_s100, j13_s100, j14_s100, none]) (re_lst (rl_lst (rl_cons (re_ref (rc_1 (re_var odd_247 eA rfl) (fun _ => re_raw))) (rl_cons (re_ref (rc_1 (re_var odd_247 eA rfl) (fun _ => re_raw))) (rl_cons (re_ref (rc_1 (re_var odd_247 eA rfl) (fun _ => re_raw))) (rl_cons (re_ref (rc_1 (re_var odd_247 eA rfl) (fun _ => re_raw))) (rl_cons (re_ref (rc_2 (re_var odd_247 eA rfl) (re_tupT (rl_nil (e := eA))) (fun _ _ => re_asB re_raw))) (rl_cons (re_ref (rc_2 (re_var odd_247 eA rfl) (re_tupT (rl_nil (e := eA))) (fun _ _ => re_asB re_raw))) (rl_nil (e := eS)))))))))) rfl (fun _ => rfl) (fun told_268 => (rg_ret (re_and (re_bin (bo_eq (eq_L eq_B) (sh_L sh_B)) (re_var wrong_199 (eL eB) rfl) (re_lst (rl_rep (re_lst (rl_lst (rl_cons re_bool (rl_nil (e := eB))))) re_int))) (re_bin (bo_eqG (eq_L eq_S)) (re_var told_268 (eL eS) rfl) (re_lst (rl_rep (re_lst (rl_lst (rl_cons re_str (rl_nil (e := eS))))) re_int))))))))))))))))))))))))))))))
end K20

namespace K20
open PySem PySem.Spec Ev Ty
abbrev St := List (Int × Int)
def pa (st : St) (x : Int) : Int := (ga st x).1
def wo (st : St) (x : Int) : Int := (ga st x).2
structure Ok (st : St) : Prop where
  le : st.length ≤ 16
  par : ∀ x : Int, 0 ≤ x → x < st.length → -1 ≤ pa st x ∧ pa st x < x
structure Good (st : St) : Prop extends Ok st where
  ne : 0 < st.length
  le9 : st.length ≤ 9
  w : ∀ x : Int, 0 ≤ x → x < st.length → 0 ≤ wo st x ∧ wo st x ≤ 999
theorem stand_t {st : St} (G : Good st) : T_is_stand st = rtn true := by
  have h1 := G.ne
  have h2 := G.le9
  unfold T_is_stand
  simp only [bnd_rtn, bnd_bnd, bnd_rtn']
  have hd : ∀ x : Int × Int, dataD (eP2 eI eI x) = true := fun x => rfl
  have e2 : rowT (eT (eP2 eI eI) st) 1 16 = rtn true := by
    unfold rowT
    have hd : dataD (eT (eP2 eI eI) st) = true := dataAll fun x hx => by obtain ⟨r, _, rfl⟩ := List.mem_map.mp hx; exact hd r
    rw [hd, grd_t]
    show rtn (decide ((1 : Int) ≤ ((st.map (eP2 eI eI)).length : Int)) && decide (((st.map (eP2 eI eI)).length : Int) ≤ 16)) = _
    rw [List.length_map, decide_eq_true (by omega), decide_eq_true (by omega)]
    rfl
  rw [e2, bnd_rtn]
  simp only [Bool.not_true, Bool.false_eq_true, if_false]
  rw [compT_map (g := fun _ => true) (fun x _ => by
    rw [one_t]
    have : rowT (eP2 eI eI x) 2 2 = rtn true := by unfold rowT; rw [hd x, grd_t]; rfl
    rw [this, bnd_rtn]), bnd_rtn, sz_ok (by simp; omega), bnd_rtn, bnd_rtn]
  rw [show (st.map fun _ => true).all id = true from by rw [List.all_map, List.all_eq_true]; intro x _; rfl]
  simp only [Bool.not_true, Bool.false_eq_true, if_false]
  rw [compT_map (g := fun _ => true) (fun x hx => by
    obtain ⟨m1, m2, m3⟩ := mem_enum hx
    have p := G.par x.1 m1 m2
    have w := G.w x.1 m1 m2
    unfold pa at p
    unfold wo at w
    rw [one_t, whole_I, m3, decide_eq_true p.1, decide_eq_true (by omega : (ga st x.1).1 ≤ x.1 - 1)]
    simp only [Bool.and_self, bnd_rtn, if_true]
    rw [whole_I, decide_eq_true w.1, decide_eq_true w.2]
    rfl), bnd_rtn, sz_ok (by rw [List.length_map, enum_eq]; simp; omega), bnd_rtn]
  congr 1
  rw [List.all_map, List.all_eq_true]
  intro x _
  rfl
/-! ### the sums of a stand -/
/-- the sum over those that hang on x -/
def hang (st : St) (x : Int) (g : Int → Int) : Int := sm st.length fun c => if pa st c = x then g c else 0
structure Sums (st : St) (F K : List Int) : Prop where
  lf : F.length = st.length
  lk : K.length = st.length
  f : ∀ x : Int, 0 ≤ x → x < st.length → ga F x = wo st x + hang st x (ga K)
  k : ∀ x : Int, 0 ≤ x → x < st.length → ga K x = hang st x fun c => max (ga F c) (ga K c)
def hangF (st : St) (k x : Int) (g : Int → Int) : Int := sm st.length fun c => if k ≤ c ∧ pa st c = x then g c else 0
theorem hangF_step {st : St} {k : Int} (h0 : 0 ≤ k) (h1 : k < st.length) (x : Int) (g : Int → Int) : hangF st k x g = hangF st (k + 1) x g + if pa st k = x then g k else 0 := by
  unfold hangF
  have e := sm_single (a := k) (v := if pa st k = x then g k else 0) st.length
  rw [if_pos (show 0 ≤ k ∧ k < (st.length : Int) from ⟨h0, h1⟩)] at e
  rw [← e, ← sm_add]
  refine sm_congr fun c _ _ => ?_
  by_cases h : k = c
  · subst h
    by_cases q : pa st k = x
    · rw [if_pos ⟨Int.le_refl _, q⟩, if_neg (by omega), if_pos rfl, if_pos q]; omega
    · rw [if_neg (fun h => q h.2), if_neg (by omega), if_pos rfl, if_neg q]; rfl
  · rw [if_neg h]
    by_cases q : k ≤ c ∧ pa st c = x
    · rw [if_pos q, if_pos ⟨by omega, q.2⟩]; omega
    · rw [if_neg q, if_neg (fun h => q ⟨by omega, h.2⟩)]; rfl
theorem hangF_none {st : St} {k x : Int} (h : st.length ≤ k) (g : Int → Int) : hangF st k x g = 0 := by
  unfold hangF
  exact (sm_congr fun c _ h2 => if_neg (show ¬ (k ≤ c ∧ pa st c = x) from fun q => by have := q.1; omega)).trans (sm_0 _)
theorem hangF_congr {st : St} {k x : Int} {g g' : Int → Int} (h : ∀ c, k ≤ c → c < st.length → g c = g' c) : hangF st k x g = hangF st k x g' := by
  unfold hangF
  refine sm_congr fun c _ h2 => ?_
  by_cases q : k ≤ c ∧ pa st c = x
  · rw [if_pos q, if_pos q, h c q.1 h2]
  · rw [if_neg q, if_neg q]
theorem hangF_all {st : St} {x : Int} (g : Int → Int) : hangF st 0 x g = hang st x g := by
  unfold hangF hang
  refine sm_congr fun c h0 _ => ?_
  by_cases q : pa st c = x
  · rw [if_pos ⟨h0, q⟩, if_pos q]
  · rw [if_neg (fun h => q h.2), if_neg q]
theorem sums_spec {st : St} (O : Ok st) : ∃ F K, T_sums_of st = rtn (F, K) ∧ Sums st F K := by
  have hn := O.le
  unfold T_sums_of
  simp only [bnd_rtn, bnd_bnd, bnd_rtn', sz_one]
  rw [compT_map (g := fun x : Int × Int => x.2) (fun x _ => by rw [one_t, bnd_rtn]), bnd_rtn, sz_ok (by simp; omega), bnd_rtn, rep_ok (by omega) (by omega), bnd_rtn, rng3_ok (by omega) (by omega), bnd_rtn]
  have hw : ∀ x : Int, 0 ≤ x → x < st.length → ga (st.map fun x : Int × Int => x.2) x = wo st x := fun x h0 h1 => ga_map h0 h1
  obtain ⟨⟨F, K⟩, e, i1, i2, i3, i4⟩ := for_ix (g := fun x15 (s14 : List Int × List Int) =>
                  bnd (atT st x15) fun a =>
                    if decide (0 ≤ a.fst) = true then
                      bnd (augT (fun i j => i + j) s14.fst a.fst) fun q =>
                        bnd (atT s14.snd x15) fun a_1 =>
                          bnd (augT (fun i j => i + j) s14.snd a.fst) fun q_1 =>
                            bnd (atT (s14.fst.set q.snd (q.fst + a_1)) x15) fun a =>
                              bnd (atT s14.snd x15) fun a_2 =>
                                rtn (s14.fst.set q.snd (q.fst + a_1), s14.snd.set q_1.snd (q_1.fst + max a a_2))
                    else rtn (s14.fst, s14.snd))
    (fun k : Nat => (st.length : Int) - 1 - (k : Int)) (fun k s => s.1.length = st.length ∧ s.2.length = st.length ∧
      (∀ x : Int, 0 ≤ x → x < st.length → ga s.1 x = wo st x + hangF st ((st.length : Int) - k) x (ga s.2)) ∧
      (∀ x : Int, 0 ≤ x → x < st.length → ga s.2 x = hangF st ((st.length : Int) - k) x fun c => max (ga s.1 c) (ga s.2 c)))
    (n := st.length) (s := (st.map fun x : Int × Int => x.2, List.replicate (st.length : Int).toNat 0))
    ⟨by simp, by simp, fun x h0 h1 => by rw [hw x h0 h1, hangF_none (by omega)]; omega, fun x h0 h1 => by rw [hangF_none (by omega)]; exact ga_rep h0 (by omega)⟩
    (fun k s hk ⟨i1, i2, i3, i4⟩ => by
      have hp := O.par ((st.length : Int) - 1 - k) (by omega) (by omega)
      rw [at_ga (by omega) (by omega), bnd_rtn]
      have hst : ∀ x g, hangF st ((st.length : Int) - (k + 1 : Nat)) x g = hangF st ((st.length : Int) - k) x g + if pa st ((st.length : Int) - 1 - k) = x then g ((st.length : Int) - 1 - k) else 0 := fun x g => by
        have := hangF_step (st := st) (k := (st.length : Int) - 1 - k) (by omega) (by omega) x g
        rw [show (st.length : Int) - 1 - k + 1 = st.length - k from by omega] at this
        rw [show (st.length : Int) - ((k + 1 : Nat) : Int) = st.length - 1 - k from by omega]
        exact this
      by_cases c : 0 ≤ pa st ((st.length : Int) - 1 - k)
      · have c' : 0 ≤ (ga st ((st.length : Int) - 1 - k)).fst := c
        simp only [c', decide_true, if_true]
        rw [show (ga st ((st.length : Int) - 1 - k)).fst = pa st ((st.length : Int) - 1 - k) from rfl]
        rw [aug_ga c (by omega), bnd_rtn, at_ga (by omega) (by omega), bnd_rtn, aug_ga c (by omega), bnd_rtn]
        rw [at_ga (by omega) (by rw [List.length_set]; omega), bnd_rtn, bnd_rtn]
        have gF : ∀ x : Int, 0 ≤ x → ga (s.1.set (pa st ((st.length : Int) - 1 - k)).toNat (ga s.1 (pa st ((st.length : Int) - 1 - k)) + ga s.2 ((st.length : Int) - 1 - k))) x = if x = pa st ((st.length : Int) - 1 - k) then ga s.1 (pa st ((st.length : Int) - 1 - k)) + ga s.2 ((st.length : Int) - 1 - k) else ga s.1 x := fun x hx => ga_set c (by omega) hx
        refine ⟨_, rfl, by show (List.set _ _ _).length = _; rw [List.length_set]; exact i1, by show (List.set _ _ _).length = _; rw [List.length_set]; exact i2, fun x h0 h1 => ?_, fun x h0 h1 => ?_⟩
        · show ga (s.1.set _ _) x = wo st x + hangF st _ x (ga (s.2.set _ _))
          rw [hst, hangF_congr (g' := ga s.2) (fun c' q1 q2 => by rw [ga_set c (by omega) (by omega), if_neg (by omega)]), gF x h0, ga_set c (by omega) (by omega), if_neg (by omega : ¬ (st.length : Int) - 1 - k = pa st ((st.length : Int) - 1 - k))]
          by_cases e : x = pa st ((st.length : Int) - 1 - k)
          · rw [if_pos e, if_pos e.symm, e, i3 _ c (by omega)]; omega
          · rw [if_neg e, if_neg (Ne.symm e), i3 x h0 h1]; omega
        · show ga (s.2.set _ _) x = hangF st _ x (fun c => max (ga (s.1.set _ _) c) (ga (s.2.set _ _) c))
          rw [hst, hangF_congr (g' := fun c => max (ga s.1 c) (ga s.2 c)) (fun c' q1 q2 => by
            show max (ga (s.1.set _ _) c') (ga (s.2.set _ _) c') = _
            rw [gF c' (by omega), ga_set c (by omega) (by omega), if_neg (by omega), if_neg (by omega)])]
          rw [ga_set c (by omega) h0, gF _ (by omega), ga_set c (by omega) (by omega), if_neg (by omega : ¬ (st.length : Int) - 1 - k = pa st ((st.length : Int) - 1 - k)), if_neg (by omega : ¬ (st.length : Int) - 1 - k = pa st ((st.length : Int) - 1 - k))]
          by_cases e : x = pa st ((st.length : Int) - 1 - k)
          · rw [if_pos e, if_pos e.symm, e, i4 _ c (by omega)]
          · rw [if_neg e, if_neg (Ne.symm e), i4 x h0 h1]; omega
      · have c' : ¬ 0 ≤ (ga st ((st.length : Int) - 1 - k)).fst := c
        simp only [c', decide_false, Bool.false_eq_true, if_false]
        refine ⟨_, rfl, i1, i2, fun x h0 h1 => ?_, fun x h0 h1 => ?_⟩
        · rw [hst, if_neg (by omega)]
          rw [Int.add_zero]
          exact i3 x h0 h1
        · rw [hst, if_neg (by omega), Int.add_zero]
          exact i4 x h0 h1)
  refine ⟨F, K, ?_, i1, i2, fun x h0 h1 => ?_, fun x h0 h1 => ?_⟩
  · rw [show ((st.length : Int) - 1 - -1).toNat = st.length from by omega, e, bnd_rtn]
  · have := i3 x h0 h1
    rwa [show (st.length : Int) - (st.length : Nat) = 0 from by omega, hangF_all] at this
  · have := i4 x h0 h1
    rwa [show (st.length : Int) - (st.length : Nat) = 0 from by omega, hangF_all] at this
end K20

namespace K20
open PySem PySem.Spec Ev Ty
section
variable {st : St} {F K : List Int}
structure Ind (st : St) (k : Int) (p : List Int) : Prop where
  pw : p.Pairwise (· < ·)
  rng : ∀ x ∈ p, 0 ≤ x ∧ x < k
  no : ∀ x ∈ p, pa st x ∉ p
def sumw (st : St) (p : List Int) : Int := (p.map (wo st)).sum
def rs (st : St) (F K : List Int) : Int := sm st.length fun x => if pa st x < 0 then max (ga F x) (ga K x) else 0
theorem exchange (O : Ok st) (g : Int → Int → Int) : (sm st.length fun x => hang st x (g x)) = sm st.length fun c => if 0 ≤ pa st c then g (pa st c) c else 0 := by
  unfold hang
  rw [sm_swap]
  refine sm_congr fun c h0 h1 => ?_
  have hp := O.par c h0 h1
  have e := sm_single (a := pa st c) (v := g (pa st c) c) st.length
  have e2 : (sm st.length fun x => if pa st c = x then g x c else 0) = sm st.length fun x => if pa st c = x then g (pa st c) c else 0 := sm_congr fun x _ _ => by
    by_cases q : pa st c = x
    · rw [if_pos q, if_pos q, q]
    · rw [if_neg q, if_neg q]
  rw [e2, e]
  by_cases q : 0 ≤ pa st c
  · rw [if_pos ⟨q, by omega⟩, if_pos q]
  · rw [if_neg (fun h => q h.1), if_neg q]
theorem nd_lt {p : List Int} (h : p.Pairwise (· < ·)) : p.Nodup := h.imp fun h e => by omega
theorem split_sum (O : Ok st) (S : Sums st F K) {p : List Int} (I : Ind st st.length p) : (sm st.length fun x => if x ∈ p then ga F x else ga K x) = sumw st p + sm st.length fun c => if 0 ≤ pa st c then (if pa st c ∈ p then ga K c else max (ga F c) (ga K c)) else 0 := by
  have e := exchange O fun x c => if x ∈ p then ga K c else max (ga F c) (ga K c)
  rw [← e]
  unfold sumw
  rw [sm_mem (nd_lt I.pw) I.rng, ← sm_add]
  refine sm_congr fun x h0 h1 => ?_
  by_cases q : x ∈ p
  · rw [if_pos q, if_pos q, S.f x h0 h1]
    congr 1
    unfold hang
    exact sm_congr fun c _ _ => by show _ = if pa st c = x then (if x ∈ p then ga K c else max (ga F c) (ga K c)) else 0; rw [if_pos q]
  · rw [if_neg q, if_neg q, S.k x h0 h1, Int.zero_add]
    unfold hang
    exact sm_congr fun c _ _ => by show _ = if pa st c = x then (if x ∈ p then ga K c else max (ga F c) (ga K c)) else 0; rw [if_neg q]
theorem sum_le (O : Ok st) (S : Sums st F K) {p : List Int} (I : Ind st st.length p) : sumw st p ≤ rs st F K := by
  have h := split_sum O S I
  have h2 : (sm st.length fun x => if x ∈ p then ga F x else ga K x) ≤ (sm st.length fun c => if 0 ≤ pa st c then (if pa st c ∈ p then ga K c else max (ga F c) (ga K c)) else 0) + rs st F K := by
    unfold rs
    rw [← sm_add]
    refine sm_le fun x h0 h1 => ?_
    by_cases q : 0 ≤ pa st x
    · rw [if_pos q, if_neg (by omega : ¬ pa st x < 0)]
      by_cases c : pa st x ∈ p
      · rw [if_pos c, if_neg (fun hx => I.no x hx c)]; omega
      · rw [if_neg c]; split <;> omega
    · rw [if_neg q, if_pos (by omega : pa st x < 0)]; split <;> omega
  omega
theorem sum_eq (O : Ok st) (S : Sums st F K) {p : List Int} (I : Ind st st.length p) (g : ∀ c : Int, 0 ≤ c → c < st.length → (c ∈ p ↔ pa st c ∉ p ∧ ga K c < ga F c)) : sumw st p = rs st F K := by
  have h := split_sum O S I
  have h2 : (sm st.length fun x => if x ∈ p then ga F x else ga K x) = (sm st.length fun c => if 0 ≤ pa st c then (if pa st c ∈ p then ga K c else max (ga F c) (ga K c)) else 0) + rs st F K := by
    unfold rs
    rw [← sm_add]
    refine sm_congr fun x h0 h1 => ?_
    have gx := g x h0 h1
    have key : pa st x ∉ p → (if x ∈ p then ga F x else ga K x) = max (ga F x) (ga K x) := fun c => by
      by_cases hx : x ∈ p
      · have := (gx.mp hx).2; rw [if_pos hx]; omega
      · have : ¬ ga K x < ga F x := fun q => hx (gx.mpr ⟨c, q⟩)
        rw [if_neg hx]; omega
    by_cases q : 0 ≤ pa st x
    · rw [if_pos q, if_neg (by omega : ¬ pa st x < 0)]
      by_cases c : pa st x ∈ p
      · rw [if_pos c, if_neg (fun hx => I.no x hx c)]; omega
      · rw [if_neg c, key c]; omega
    · rw [if_neg q, if_pos (by omega : pa st x < 0), key (fun c => q (I.rng _ c).1)]; omega
  omega
/-! ### the trees that are felled -/
def gr (st : St) (F K : List Int) : Nat → List Int
  | 0 => []
  | k + 1 => if pa st k ∉ gr st F K k ∧ ga K k < ga F k then gr st F K k ++ [(k : Int)] else gr st F K k
theorem gr_spec (O : Ok st) : ∀ k : Nat, k ≤ st.length → Ind st k (gr st F K k) ∧ ∀ c : Int, 0 ≤ c → c < k → (c ∈ gr st F K k ↔ pa st c ∉ gr st F K k ∧ ga K c < ga F c)
  | 0, _ => ⟨⟨List.Pairwise.nil, (fun x hx => nomatch hx), fun x hx => nomatch hx⟩, fun c _ _ => by omega⟩
  | k + 1, h => by
    obtain ⟨⟨i1, i2, i3⟩, i4⟩ := gr_spec O k (by omega)
    have hk := O.par k (by omega) (by omega)
    have hkn : (k : Int) ∉ gr st F K k := fun h => by have := i2 _ h; omega
    unfold gr
    split
    · rename_i c
      refine ⟨⟨?_, fun x hx => ?_, fun x hx hq => ?_⟩, fun z z0 z1 => ?_⟩
      · rw [List.pairwise_append]
        exact ⟨i1, by simp, fun a ha b hb => by rw [List.mem_singleton.mp hb]; exact (i2 a ha).2⟩
      · rcases List.mem_append.mp hx with hx | hx
        · have := i2 x hx; omega
        · rw [List.mem_singleton.mp hx]; omega
      · rcases List.mem_append.mp hx with hx | hx
        · have hp := O.par x (i2 x hx).1 (by have := (i2 x hx).2; omega)
          rcases List.mem_append.mp hq with hq | hq
          · exact i3 x hx hq
          · have := List.mem_singleton.mp hq
            have := (i2 x hx).2
            omega
        · have e := List.mem_singleton.mp hx
          subst e
          rcases List.mem_append.mp hq with hq | hq
          · exact c.1 hq
          · have := List.mem_singleton.mp hq; omega
      · have hp := O.par z z0 (by omega)
        have e1 : pa st z ∉ gr st F K k ++ [(k : Int)] ↔ pa st z ∉ gr st F K k := by
          rw [List.mem_append, List.mem_singleton]
          constructor
          · exact fun h q => h (Or.inl q)
          · rintro h (q | q)
            · exact h q
            · omega
        rw [e1]
        by_cases ez : z = k
        · subst ez
          exact ⟨fun _ => c, fun _ => by simp⟩
        · rw [← i4 z z0 (by omega), List.mem_append, List.mem_singleton]
          exact ⟨fun h => h.resolve_right ez, Or.inl⟩
    · rename_i c
      refine ⟨⟨i1, fun x hx => by have := i2 x hx; omega, i3⟩, fun z z0 z1 => ?_⟩
      by_cases ez : z = k
      · subst ez
        exact ⟨fun h => absurd h hkn, fun h => absurd h c⟩
      · exact i4 z z0 (by omega)
def IsMost (st : St) (m : Int) : Prop := (∃ p, Ind st st.length p ∧ sumw st p = m) ∧ ∀ p, Ind st st.length p → sumw st p ≤ m
theorem rs_most (O : Ok st) (S : Sums st F K) : IsMost st (rs st F K) := by
  obtain ⟨g1, g2⟩ := gr_spec (F := F) (K := K) O st.length (Nat.le_refl _)
  exact ⟨⟨_, g1, sum_eq O S g1 g2⟩, fun p I => sum_le O S I⟩
theorem trees_spec (G : Good st) (e : T_sums_of st = rtn (F, K)) (S : Sums st F K) : T_trees st = rtn (gr st F K st.length) := by
  have h9 := G.le9
  have lf := S.lf
  have lk := S.lk
  unfold T_trees
  simp only [bnd_rtn, bnd_bnd, bnd_rtn', sz_nil, stand_t G, req_t, e]
  rw [enum_eq]
  obtain ⟨s, e1, e2⟩ := for_ix (g := fun x10 (s9 : List Int) =>
              bnd
                (if (!inT x10.snd.fst s9) = true then
                  bnd (atT F x10.fst) fun x23 => bnd (atT K x10.fst) fun x24 => rtn (decide (x24 < x23))
                else rtn false)
                fun c => if c = true then appT s9 x10.fst else rtn s9)
    (fun k : Nat => ((k : Int), ga st k)) (fun k s => s = gr st F K k) (n := st.length) (s := []) rfl (fun k s hk hs => by
      subst hs
      obtain ⟨⟨i1, i2, i3⟩, _⟩ := gr_spec (F := F) (K := K) G.toOk k (by omega)
      have hl : (gr st F K k).length ≤ 16 := by
        have := len_pw i1 i2 (by omega)
        omega
      show ∃ s', bnd (if (!inT (pa st k) (gr st F K k)) = true then bnd (atT F k) fun x23 => bnd (atT K k) fun x24 => rtn (decide (x24 < x23)) else rtn false) (fun c => if c = true then appT (gr st F K k) (k : Int) else rtn (gr st F K k)) = rtn s' ∧ s' = gr st F K (k + 1)
      refine ⟨_, ?_, rfl⟩
      show _ = rtn (if pa st k ∉ gr st F K k ∧ ga K k < ga F k then gr st F K k ++ [(k : Int)] else gr st F K k)
      by_cases c : pa st k ∈ gr st F K k
      · rw [show inT (pa st k) (gr st F K k) = true from inT_iff.mpr c, if_neg (show ¬ (pa st k ∉ gr st F K k ∧ ga K k < ga F k) from fun h => h.1 c)]
        rfl
      · rw [show inT (pa st k) (gr st F K k) = false from by rw [Bool.eq_false_iff, Ne, inT_iff]; exact c]
        rw [if_pos (by rfl), at_ga (by omega) (by omega), bnd_rtn, at_ga (by omega) (by omega), bnd_rtn, bnd_rtn]
        by_cases q : ga K k < ga F k
        · rw [if_pos (decide_eq_true q), if_pos ⟨c, q⟩, app_ok (by omega)]
        · rw [if_neg (by rw [decide_eq_false q]; exact Bool.false_ne_true), if_neg (fun h => q h.2)])
  rw [e1, e2]
theorem best_sum (O : Ok st) (e : T_sums_of st = rtn (F, K)) (S : Sums st F K) : (bnd (compT (fun x3 : Int × Int × Int => one (rtn (decide (x3.snd.fst < 0))) (bnd (atT F x3.fst) fun x => bnd (atT K x3.fst) fun y => rtn (max x y))) (enumT st)) fun a => bnd (szT a) fun x => rtn x.sum) = rtn (rs st F K) := by
  have hn := O.le
  have lf := S.lf
  have lk := S.lk
  rw [compT_filter (p := fun x : Int × Int × Int => decide (x.2.1 < 0)) (g := fun x => max (ga F x.1) (ga K x.1)) (fun x hx => by
    obtain ⟨m1, m2, m3⟩ := mem_enum hx
    rw [at_ga (by omega) (by omega), bnd_rtn, at_ga (by omega) (by omega), bnd_rtn, one_ret]), bnd_rtn, sz_ok (by rw [List.length_map]; refine Nat.le_trans (List.length_filter_le _ _) ?_; rw [enum_eq]; simp; omega), bnd_rtn]
  congr 1
  have he : enumT st = (rngI 0 st.length).map fun x => (x, ga st x) := by
    have := enum_map (xs := st) (f := id)
    rwa [List.map_id] at this
  rw [he, List.filter_map, List.map_map]
  have := sum_filter (f := fun x => max (ga F x) (ga K x)) (p := fun x => decide (pa st x < 0)) (n := st.length)
  refine Eq.trans this ?_
  unfold rs
  exact sm_congr fun x _ _ => by
    by_cases q : pa st x < 0
    · rw [if_pos (decide_eq_true q), if_pos q]
    · rw [if_neg (by rw [decide_eq_false q]; exact Bool.false_ne_true), if_neg q]
theorem best_spec (O : Ok st) : ∃ m, T_best_of st = rtn m ∧ IsMost st m := by
  obtain ⟨F, K, e, S⟩ := sums_spec O
  refine ⟨rs st F K, ?_, rs_most O S⟩
  unfold T_best_of
  simp only [bnd_rtn, bnd_bnd, bnd_rtn', e]
  exact best_sum O e S
theorem worth_spec (G : Good st) (e : T_sums_of st = rtn (F, K)) (S : Sums st F K) : T_worth st = rtn (rs st F K) := by
  unfold T_worth
  simp only [bnd_rtn, bnd_bnd, bnd_rtn', stand_t G, req_t, e]
  exact best_sum G.toOk e S
end
end K20

namespace K20
open PySem PySem.Spec Ev Ty
section
variable {st : St} {F K : List Int}
/-! ### the list of all sets -/
def sets (st : St) : Nat → List (List Int)
  | 0 => [[]]
  | k + 1 => sets st k ++ ((sets st k).filter fun own => !inT (pa st k) own).map fun own => own ++ [(k : Int)]
theorem len_sets (st : St) : ∀ k, (sets st k).length ≤ 2 ^ k
  | 0 => Nat.le_refl _
  | k + 1 => by
    show (sets st k ++ _).length ≤ _
    have := len_sets st k
    have h2 := List.length_filter_le (fun own => !inT (pa st k) own) (sets st k)
    rw [List.length_append, List.length_map, Nat.pow_succ]
    omega
theorem mem_sets (O : Ok st) : ∀ {k : Nat} {p : List Int}, k ≤ st.length → (p ∈ sets st k ↔ Ind st k p)
  | 0, p, _ => by
    show p ∈ [[]] ↔ _
    rw [List.mem_singleton]
    constructor
    · rintro rfl; exact ⟨List.Pairwise.nil, (fun x hx => nomatch hx), fun x hx => nomatch hx⟩
    · intro I
      cases p with
      | nil => rfl
      | cons x p => have := I.rng x List.mem_cons_self; omega
  | k + 1, p, h => by
    have hk := O.par k (by omega) (by omega)
    show p ∈ sets st k ++ _ ↔ _
    rw [List.mem_append, mem_sets O (by omega), List.mem_map]
    constructor
    · rintro (I | ⟨q, hq, rfl⟩)
      · exact ⟨I.pw, fun x hx => by have := I.rng x hx; omega, I.no⟩
      · obtain ⟨h1, h2⟩ := List.mem_filter.mp hq
        have I := (mem_sets O (by omega)).mp h1
        have hn : pa st k ∉ q := fun h => by rw [inT_iff.mpr h] at h2; cases h2
        refine ⟨?_, fun x hx => ?_, fun x hx hq => ?_⟩
        · rw [List.pairwise_append]
          exact ⟨I.pw, by simp, fun a ha b hb => by rw [List.mem_singleton.mp hb]; exact (I.rng a ha).2⟩
        · rcases List.mem_append.mp hx with hx | hx
          · have := I.rng x hx; omega
          · rw [List.mem_singleton.mp hx]; omega
        · rcases List.mem_append.mp hx with hx | hx
          · have hp := O.par x (I.rng x hx).1 (by have := (I.rng x hx).2; omega)
            rcases List.mem_append.mp hq with hq | hq
            · exact I.no x hx hq
            · have := List.mem_singleton.mp hq
              have := (I.rng x hx).2
              omega
          · have e := List.mem_singleton.mp hx
            subst e
            rcases List.mem_append.mp hq with hq | hq
            · exact hn hq
            · have := List.mem_singleton.mp hq; omega
    · intro I
      by_cases c : (k : Int) ∈ p
      · right
        obtain ⟨q, r, e⟩ := List.append_of_mem c
        have hr : r = [] := by
          cases r with
          | nil => rfl
          | cons y r =>
            have hp := I.pw
            rw [e, List.pairwise_append] at hp
            have := (List.pairwise_cons.mp hp.2.1).1 y List.mem_cons_self
            have := I.rng y (by rw [e]; simp)
            omega
        subst hr
        have hp := I.pw
        rw [e, List.pairwise_append] at hp
        refine ⟨q, List.mem_filter.mpr ⟨(mem_sets O (by omega)).mpr ⟨hp.1, fun x hx => ?_, fun x hx hq => ?_⟩, ?_⟩, e.symm⟩
        · have := hp.2.2 x hx k (by simp)
          have := I.rng x (by rw [e]; simp [hx])
          omega
        · exact I.no x (by rw [e]; simp [hx]) (by rw [e]; simp [hq])
        · have : pa st k ∉ q := fun h => I.no k c (by rw [e]; simp [h])
          rw [show inT (pa st k) q = false from by rw [Bool.eq_false_iff, Ne, inT_iff]; exact this]
          rfl
      · left
        exact ⟨I.pw, fun x hx => by have := I.rng x hx; have : x ≠ k := fun e => c (e ▸ hx); omega, I.no⟩
theorem sets_spec (G : Good st) : ∃ L, T__law_sets st = rtn L ∧ L.length ≤ 512 ∧ ∀ p, p ∈ L ↔ Ind st st.length p := by
  have h9 := G.le9
  refine ⟨sets st st.length, ?_, ?_, fun p => mem_sets G.toOk (Nat.le_refl _)⟩
  · unfold T__law_sets
    simp only [bnd_rtn, bnd_bnd, bnd_rtn', sz_nil, sz_one]
    rw [rng1_ok (by omega) (by omega), bnd_rtn, show ((st.length : Int)).toNat = st.length from by omega]
    exact for_rng (sets st) (lo := 0) (n := st.length) (fun k hk => by
      have hl := len_sets st k
      have h12 : 2 ^ k ≤ 2 ^ 9 := Nat.pow_le_pow_right (by omega) (by omega)
      have hf := List.length_filter_le (fun own => !inT (pa st k) own) (sets st k)
      rw [Int.zero_add]
      rw [compT_filter (p := fun own => !inT (pa st k) own) (g := fun own => own ++ [(k : Int)]) (fun p hp => by
        have I := (mem_sets G.toOk (by omega)).mp hp
        have := len_pw I.pw I.rng (by omega)
        rw [at_ga (by omega) (by omega), bnd_rtn, cat_ok (by simp; omega), one_ret]
        rfl), bnd_rtn, sz_ok (by rw [List.length_map]; omega), bnd_rtn, cat_ok (by rw [List.length_map]; omega)]
      rfl)
  · have := len_sets st st.length
    have h12 : 2 ^ st.length ≤ 2 ^ 9 := Nat.pow_le_pow_right (by omega) (by omega)
    omega
theorem sum_ok (hn : st.length ≤ 16) {p : List Int} (I : Ind st st.length p) : T__law_sum st p = rtn (sumw st p) := by
  have := len_pw I.pw I.rng (by omega)
  unfold T__law_sum
  simp only [bnd_rtn, bnd_bnd, bnd_rtn']
  rw [compT_map (g := wo st) (fun x hx => by
    have := I.rng x hx
    rw [one_t, at_ga (by omega) (by omega), bnd_rtn, bnd_rtn]
    rfl), bnd_rtn, sz_ok (by rw [List.length_map]; omega), bnd_rtn]
  rfl
/-! ### are_trees -/
theorem are_spec (G : Good st) {v : List Int} (hv : v.length ≤ 1000) : ∃ q, T_are_trees st v = rtn q ∧ (q = true ↔ Ind st st.length v) := by
  have h9 := G.le9
  unfold T_are_trees
  simp only [bnd_rtn, bnd_bnd, bnd_rtn', stand_t G, req_t, row_I, wholes_I (show v.length ≤ 1000000 by omega), decide_true, Bool.true_and]
  have key : Ind st st.length v → (v.length : Int) ≤ st.length ∧ ∀ x ∈ v, 0 ≤ x ∧ x ≤ (st.length : Int) - 1 := fun I =>
    ⟨len_pw I.pw I.rng (by omega), fun x hx => by have := I.rng x hx; omega⟩
  rw [decide_eq_true (by omega : (0 : Int) ≤ v.length), Bool.true_and]
  by_cases c1 : (v.length : Int) ≤ st.length
  · rw [decide_eq_true c1]
    simp only [Bool.not_true, Bool.false_eq_true, if_false]
    by_cases c2 : (v.all fun x => decide (0 ≤ x) && decide (x ≤ (st.length : Int) - 1)) = true
    · have hr : ∀ x ∈ v, 0 ≤ x ∧ x ≤ (st.length : Int) - 1 := fun x hx => by
        have := List.all_eq_true.mp c2 x hx
        simpa only [Bool.and_eq_true, decide_eq_true_iff] using this
      rw [c2]
      simp only [Bool.not_true, Bool.false_eq_true, if_false, bnd_rtn]
      rw [rng2_ok (by omega) (by omega), bnd_rtn, compT_map (g := fun x => decide (ga v (x - 1) < ga v x)) (fun x hx => by
        have := mem_rngI.mp hx
        rw [one_t, at_ga (by omega) (by omega), bnd_rtn, at_ga (by omega) (by omega), bnd_rtn, bnd_rtn]), bnd_rtn, sz_ok (by simp [len_rngI]; omega), bnd_rtn, List.all_map]
      by_cases c3 : ((rngI 1 ((v.length : Int) - 1).toNat).all (id ∘ fun x => decide (ga v (x - 1) < ga v x))) = true
      · rw [c3]
        have hpw : v.Pairwise (· < ·) := pw_step fun i h0 h1 => by
          have := List.all_eq_true.mp c3 (i + 1) (mem_rngI.mpr (by omega))
          have := of_decide_eq_true this
          rwa [show i + 1 - 1 = i from by omega] at this
        simp only [Bool.not_true, Bool.false_eq_true, if_false]
        rw [compT_map (g := fun x => inT (pa st x) v) (fun x hx => by
          have := hr x hx
          rw [one_t, at_ga (by omega) (by omega), bnd_rtn, bnd_rtn]
          rfl), bnd_rtn, sz_ok (by rw [List.length_map]; omega), bnd_rtn]
        refine ⟨_, rfl, ?_⟩
        rw [List.any_map, Bool.not_eq_true', Bool.eq_false_iff, Ne, List.any_eq_true]
        constructor
        · intro h
          exact ⟨hpw, fun x hx => by have := hr x hx; omega, fun x hx hq => h ⟨x, hx, inT_iff.mpr hq⟩⟩
        · rintro I ⟨x, hx, hq⟩
          exact I.no x hx (inT_iff.mp hq)
      · rw [Bool.eq_false_iff.mpr c3]
        simp only [Bool.not_false, if_true]
        refine ⟨false, rfl, fun e => (nomatch e), fun I => absurd (List.all_eq_true.mpr fun x hx => ?_) c3⟩
        have hx := mem_rngI.mp hx
        show decide _ = true
        rw [decide_eq_true_iff]
        obtain ⟨k, rfl⟩ : ∃ k : Nat, x = (k : Int) + 1 := ⟨(x - 1).toNat, by omega⟩
        rw [show (k : Int) + 1 - 1 = (k : Int) from by omega, show (k : Int) + 1 = ((k + 1 : Nat) : Int) from by omega, ga_nat (by omega), ga_nat (by omega)]
        exact List.pairwise_iff_getElem.mp I.pw k (k + 1) (by omega) (by omega) (by omega)
    · rw [Bool.eq_false_iff.mpr c2]
      simp only [Bool.not_false, if_true, bnd_rtn]
      exact ⟨false, rfl, fun e => (nomatch e), fun I => absurd (List.all_eq_true.mpr fun x hx => by have := (key I).2 x hx; simp only [Bool.and_eq_true, decide_eq_true_iff]; exact this) c2⟩
  · rw [decide_eq_false c1]
    simp only [Bool.not_false, if_true, bnd_rtn]
    exact ⟨false, rfl, fun e => (nomatch e), fun I => absurd (key I).1 c1⟩
theorem worth_of_spec (G : Good st) {p : List Int} (I : Ind st st.length p) : T_worth_of st p = rtn (sumw st p) := by
  have h9 := G.le9
  have hl := len_pw I.pw I.rng (by omega)
  unfold T_worth_of
  simp only [bnd_rtn, bnd_bnd, bnd_rtn']
  obtain ⟨q, e, i⟩ := are_spec G (v := p) (by omega)
  rw [e, i.mpr I, bnd_rtn, req_t, bnd_rtn]
  rw [compT_map (g := wo st) (fun x hx => by
    have := I.rng x hx
    rw [one_t, at_ga (by omega) (by omega), bnd_rtn, bnd_rtn]
    rfl), bnd_rtn, sz_ok (by rw [List.length_map]; omega), bnd_rtn]
  rfl
/-! ### always -/
theorem sumw_sm {p : List Int} (I : Ind st st.length p) : sumw st p = sm st.length fun y => if y ∈ p then wo st y else 0 := sm_mem (nd_lt I.pw) I.rng
theorem less_fact {x : Int} (h0 : 0 ≤ x) (h1 : x < st.length) : (st.set x.toNat (pa st x, 0)).length = st.length ∧ (∀ y, 0 ≤ y → pa (st.set x.toNat (pa st x, 0)) y = pa st y) ∧ ∀ y, 0 ≤ y → wo (st.set x.toNat (pa st x, 0)) y = if y = x then 0 else wo st y := by
  refine ⟨List.length_set, fun y hy => ?_, fun y hy => ?_⟩
  · unfold pa
    rw [ga_set h0 h1 hy]
    by_cases e : y = x
    · rw [if_pos e, e]
    · rw [if_neg e]
  · unfold wo
    rw [ga_set h0 h1 hy]
    by_cases e : y = x
    · rw [if_pos e, if_pos e]
    · rw [if_neg e, if_neg e]
theorem less_most (G : Good st) {m m' : Int} (M : IsMost st m) {x : Int} (h0 : 0 ≤ x) (h1 : x < st.length) (M' : IsMost (st.set x.toNat (pa st x, 0)) m') : m' < m ↔ ∀ p, Ind st st.length p → sumw st p = m → x ∈ p := by
  obtain ⟨l1, l2, l3⟩ := less_fact h0 h1
  have ind : ∀ p, Ind (st.set x.toNat (pa st x, 0)) (st.set x.toNat (pa st x, 0)).length p ↔ Ind st st.length p := fun p => by
    rw [l1]
    exact ⟨fun I => ⟨I.pw, I.rng, fun y hy => by rw [← l2 y (I.rng y hy).1]; exact I.no y hy⟩, fun I => ⟨I.pw, I.rng, fun y hy => by rw [l2 y (I.rng y hy).1]; exact I.no y hy⟩⟩
  have hs : ∀ p, Ind st st.length p → sumw (st.set x.toNat (pa st x, 0)) p = sumw st p - if x ∈ p then wo st x else 0 := fun p I => by
    rw [sumw_sm ((ind p).mpr I), sumw_sm I, l1]
    have e := sm_single (a := x) (v := if x ∈ p then wo st x else 0) st.length
    rw [if_pos (show 0 ≤ x ∧ x < (st.length : Int) from ⟨h0, h1⟩)] at e
    rw [← e, ← sm_sub]
    refine sm_congr fun y y0 _ => ?_
    rw [l3 y y0]
    by_cases c : x = y
    · subst c
      by_cases q : x ∈ p
      · rw [if_pos q, if_pos rfl, if_pos rfl, if_pos q]; omega
      · rw [if_neg q, if_neg q, if_pos rfl]; rfl
    · rw [if_neg c, if_neg (Ne.symm c)]; omega
  obtain ⟨⟨q, q1, q2⟩, M2⟩ := M
  obtain ⟨⟨q', q1', q2'⟩, M2'⟩ := M'
  have w := G.w x h0 h1
  constructor
  · intro h p I e
    by_cases c : x ∈ p
    · exact c
    · have := M2' p ((ind p).mpr I)
      rw [hs p I, if_neg c] at this
      omega
  · intro h
    have I' := (ind q').mp q1'
    rw [hs q' I'] at q2'
    have h3 := M2 q' I'
    by_cases c : x ∈ q'
    · rw [if_pos c] at q2'
      by_cases hc : m' < m
      · exact hc
      · exfalso
        have e : sumw st q' = m := by omega
        have w0 : wo st x = 0 := by omega
        have I2 : Ind st st.length (q'.filter fun y => decide (y ≠ x)) := ⟨I'.pw.filter _, fun y hy => I'.rng y (List.mem_filter.mp hy).1, fun y hy hq => I'.no y (List.mem_filter.mp hy).1 (List.mem_filter.mp hq).1⟩
        have e2 : sumw st (q'.filter fun y => decide (y ≠ x)) = m := by
          rw [sumw_sm I2, ← e, sumw_sm I']
          refine sm_congr fun y _ _ => ?_
          by_cases z : y = x
          · subst z
            rw [w0]
            rw [ite_self, ite_self]
          · by_cases hq : y ∈ q'
            · rw [if_pos hq, if_pos (List.mem_filter.mpr ⟨hq, decide_eq_true z⟩)]
            · rw [if_neg hq, if_neg (fun h => hq (List.mem_filter.mp h).1)]
        have := of_decide_eq_true (List.mem_filter.mp (h _ I2 e2)).2
        exact this rfl
    · rw [if_neg c] at q2'
      by_cases hc : m' < m
      · exact hc
      · exact absurd (h q' I' (by omega)) c
theorem always_spec (G : Good st) {m : Int} (M : IsMost st m) (hm : T_best_of st = rtn m) {B : List (List Int)} (hB : ∀ p, p ∈ B ↔ Ind st st.length p ∧ sumw st p = m) : T_always st = rtn ((rngI 0 st.length).filter fun x => decide (B.filter (fun p => !inT x p) = [])) := by
  have h9 := G.le9
  unfold T_always
  simp only [bnd_rtn, bnd_bnd, bnd_rtn', sz_nil, sz_one, stand_t G, req_t, hm]
  rw [rng1_ok (by omega) (by omega), bnd_rtn, show ((st.length : Int)).toNat = st.length from by omega]
  have := for_rng (g := fun x10 (s9 : List Int) =>
                bnd (atT st x10) fun a =>
                  bnd (catT (cutL st none (some x10)) [(a.fst, 0)]) fun a =>
                    bnd (catT a (cutL st (some (x10 + 1)) none)) fun less_45 =>
                      bnd (T_best_of less_45) fun a => if decide (a < m) = true then appT s9 x10 else rtn s9)
    (fun k => (rngI 0 k).filter fun x => decide (B.filter (fun p => !inT x p) = [])) (lo := 0) (n := st.length) (fun k hk => by
      rw [Int.zero_add]
      have hl : ((rngI 0 k).filter fun x => decide (B.filter (fun p => !inT x p) = [])).length ≤ 16 := by
        refine Nat.le_trans (List.length_filter_le _ _) ?_
        rw [len_rngI]; omega
      rw [at_ga (by omega) (by omega), bnd_rtn, cut_takeI (by omega), cut_dropI (by omega), cat_ok (by simp; omega), bnd_rtn, cat_ok (by simp; omega), bnd_rtn]
      have hset : st.take (k : Int).toNat ++ [((ga st k).fst, 0)] ++ st.drop ((k : Int) + 1).toNat = st.set (k : Int).toNat (pa st k, 0) := by
        rw [List.set_eq_take_append_cons_drop, if_pos (by omega), List.append_assoc]
        rw [show ((k : Int) + 1).toNat = (k : Int).toNat + 1 from by omega]
        rfl
      rw [hset]
      obtain ⟨l1, l2, l3⟩ := less_fact (st := st) (x := k) (by omega) (by omega)
      obtain ⟨m', e', M'⟩ := best_spec (st := st.set (k : Int).toNat (pa st k, 0)) ⟨by rw [l1]; omega, fun y y0 y1 => by rw [l1] at y1; rw [l2 y y0]; exact G.par y y0 y1⟩
      rw [e', bnd_rtn]
      have iff := less_most G M (x := k) (by omega) (by omega) M'
      rw [rngI_last, List.filter_append, Int.zero_add]
      have hd : decide (m' < m) = decide (B.filter (fun p => !inT (k : Int) p) = []) := by
        rw [Bool.eq_iff_iff, decide_eq_true_iff, decide_eq_true_iff, iff, List.filter_eq_nil_iff]
        constructor
        · intro h p hp
          have := h p ((hB p).mp hp).1 ((hB p).mp hp).2
          rw [inT_iff.mpr this]
          exact Bool.false_ne_true
        · intro h p I e
          have := h p ((hB p).mpr ⟨I, e⟩)
          by_cases c : (k : Int) ∈ p
          · exact c
          · rw [show inT (k : Int) p = false from by rw [Bool.eq_false_iff, Ne, inT_iff]; exact c] at this
            exact absurd rfl this
      rw [hd]
      cases q : decide (B.filter (fun p => !inT (k : Int) p) = []) with
      | true =>
        rw [if_pos rfl, app_ok (by omega)]
        congr 2
        rw [List.filter_cons, q]
        rfl
      | false =>
        rw [if_neg Bool.false_ne_true]
        congr 1
        rw [List.filter_cons, q]
        simp)
  exact this
end
end K20

namespace K20
open PySem PySem.Spec Ev Ty
section
variable {st : St} {F K C : List Int}
/-! ### covers -/
structure Cov (st : St) (C : List Int) : Prop where
  len : C.length = st.length
  eq : ∀ x : Int, 0 ≤ x → x < st.length → ga C x = max 0 (wo st x - hang st x (ga C))
theorem hang_congr (O : Ok st) {x : Int} (h0 : 0 ≤ x) {g g' : Int → Int} (h : ∀ c : Int, x < c → c < st.length → g c = g' c) : hang st x g = hang st x g' := by
  unfold hang
  refine sm_congr fun c c0 c1 => ?_
  by_cases q : pa st c = x
  · have := O.par c c0 c1
    rw [if_pos q, if_pos q, h c (by omega) c1]
  · rw [if_neg q, if_neg q]
theorem hang_sub {x : Int} {g g' : Int → Int} : hang st x (fun c => g c - g' c) = hang st x g - hang st x g' := by
  unfold hang
  rw [← sm_sub]
  refine sm_congr fun c _ _ => ?_
  by_cases q : pa st c = x
  · rw [if_pos q, if_pos q, if_pos q]
  · rw [if_neg q, if_neg q, if_neg q]; rfl
theorem cov_val (O : Ok st) (S : Sums st F K) (V : Cov st C) : ∀ (j : Nat) {x : Int}, 0 ≤ x → x < st.length → (st.length : Int) - x ≤ j → ga C x = max 0 (ga F x - ga K x)
  | 0, x, h0, h1, h2 => by omega
  | j + 1, x, h0, h1, h2 => by
    rw [V.eq x h0 h1, S.f x h0 h1, S.k x h0 h1]
    rw [hang_congr O h0 (g' := fun c => max (ga F c) (ga K c) - ga K c) (fun c c0 c1 => by
      rw [cov_val O S V j (x := c) (by omega) c1 (by omega)]
      omega), hang_sub]
    have : hang st x (ga K) = hang st x fun c => ga K c := rfl
    rw [this]
    congr 1
    omega
theorem cov_sum (O : Ok st) (S : Sums st F K) (V : Cov st C) : C.sum = rs st F K := by
  rw [sum_ga, V.len]
  have e1 : (sm st.length fun x => ga C x) = sm st.length fun x => max (ga F x) (ga K x) - ga K x := sm_congr fun x h0 h1 => by
    rw [cov_val O S V st.length h0 h1 (by omega)]; omega
  have e2 : (sm st.length fun x => ga K x) = sm st.length fun c => if 0 ≤ pa st c then max (ga F c) (ga K c) else 0 := by
    rw [← exchange O fun _ c => max (ga F c) (ga K c)]
    exact sm_congr fun x h0 h1 => S.k x h0 h1
  rw [e1, sm_sub, e2, ← sm_sub]
  unfold rs
  refine sm_congr fun x _ _ => ?_
  by_cases q : 0 ≤ pa st x
  · rw [if_pos q, if_neg (by omega : ¬ pa st x < 0)]; omega
  · rw [if_neg q, if_pos (by omega : pa st x < 0)]; omega
theorem cover_spec (G : Good st) : ∃ C, T_cover st = rtn C ∧ Cov st C := by
  have O := G.toOk
  have hn := G.le9
  unfold T_cover
  simp only [bnd_rtn, bnd_bnd, bnd_rtn', sz_one, stand_t G, req_t]
  rw [rep_ok (by omega) (by omega), bnd_rtn, bnd_rtn, rng3_ok (by omega) (by omega), bnd_rtn]
  obtain ⟨⟨C, D⟩, e, i1, i2, i3, i4⟩ := for_ix (g := fun x23 (s22 : List Int × List Int) =>
                    bnd (atT st x23) fun a =>
                      bnd (atT s22.snd x23) fun a_1 =>
                        bnd (setT s22.fst x23 (max 0 (a.snd - a_1))) fun found_24 =>
                          bnd (atT st x23) fun a =>
                            if decide (0 ≤ a.fst) = true then
                              bnd (augT (fun i j => i + j) s22.snd a.fst) fun q =>
                                bnd (atT found_24 x23) fun a => rtn (found_24, s22.snd.set q.snd (q.fst + a))
                            else rtn (found_24, s22.snd))
    (fun k : Nat => (st.length : Int) - 1 - (k : Int)) (fun k s => s.1.length = st.length ∧ s.2.length = st.length ∧
      (∀ x : Int, (st.length : Int) - k ≤ x → 0 ≤ x → x < st.length → ga s.1 x = max 0 (wo st x - ga s.2 x)) ∧
      (∀ x : Int, 0 ≤ x → x < st.length → ga s.2 x = hangF st ((st.length : Int) - k) x (ga s.1)))
    (n := st.length) (s := (List.replicate (st.length : Int).toNat 0, List.replicate (st.length : Int).toNat 0))
    ⟨by simp, by simp, fun x h0 h1 h2 => by omega, fun x h0 h1 => by rw [hangF_none (by omega)]; exact ga_rep h0 (by omega)⟩
    (fun k s hk ⟨i1, i2, i3, i4⟩ => by
      have hp := O.par ((st.length : Int) - 1 - k) (by omega) (by omega)
      have hst : ∀ x g, hangF st ((st.length : Int) - (k + 1 : Nat)) x g = hangF st ((st.length : Int) - k) x g + if pa st ((st.length : Int) - 1 - k) = x then g ((st.length : Int) - 1 - k) else 0 := fun x g => by
        have := hangF_step (st := st) (k := (st.length : Int) - 1 - k) (by omega) (by omega) x g
        rw [show (st.length : Int) - 1 - k + 1 = st.length - k from by omega] at this
        rw [show (st.length : Int) - ((k + 1 : Nat) : Int) = st.length - 1 - k from by omega]
        exact this
      rw [at_ga (by omega) (by omega), bnd_rtn, at_ga (by omega) (by omega), bnd_rtn, set_ga (by omega) (by omega), bnd_rtn, bnd_rtn]
      have gC : ∀ x : Int, 0 ≤ x → ga (s.1.set ((st.length : Int) - 1 - k).toNat (max 0 (wo st ((st.length : Int) - 1 - k) - ga s.2 ((st.length : Int) - 1 - k)))) x = if x = (st.length : Int) - 1 - k then max 0 (wo st ((st.length : Int) - 1 - k) - ga s.2 ((st.length : Int) - 1 - k)) else ga s.1 x := fun x hx => ga_set (by omega) (by omega) hx
      have hcg : ∀ x, hangF st ((st.length : Int) - k) x (ga (s.1.set ((st.length : Int) - 1 - k).toNat (max 0 (wo st ((st.length : Int) - 1 - k) - ga s.2 ((st.length : Int) - 1 - k))))) = hangF st ((st.length : Int) - k) x (ga s.1) := fun x => hangF_congr fun c q1 q2 => by rw [gC c (by omega), if_neg (by omega)]
      show ∃ s', (if decide (0 ≤ pa st ((st.length : Int) - 1 - k)) = true then bnd (augT (fun i j => i + j) s.2 (pa st ((st.length : Int) - 1 - k))) fun q => bnd (atT (s.1.set ((st.length : Int) - 1 - k).toNat (max 0 (wo st ((st.length : Int) - 1 - k) - ga s.2 ((st.length : Int) - 1 - k)))) ((st.length : Int) - 1 - k)) fun a => rtn (s.1.set ((st.length : Int) - 1 - k).toNat (max 0 (wo st ((st.length : Int) - 1 - k) - ga s.2 ((st.length : Int) - 1 - k))), s.2.set q.snd (q.fst + a)) else rtn (s.1.set ((st.length : Int) - 1 - k).toNat (max 0 (wo st ((st.length : Int) - 1 - k) - ga s.2 ((st.length : Int) - 1 - k))), s.2)) = rtn s' ∧ _
      by_cases c : 0 ≤ pa st ((st.length : Int) - 1 - k)
      · rw [if_pos (decide_eq_true c), aug_ga c (by omega), bnd_rtn, at_ga (by omega) (by rw [List.length_set]; omega), bnd_rtn]
        refine ⟨_, rfl, by show (List.set _ _ _).length = _; rw [List.length_set]; exact i1, by show (List.set _ _ _).length = _; rw [List.length_set]; exact i2, fun x g1 h0 h1 => ?_, fun x h0 h1 => ?_⟩
        · show ga (s.1.set _ _) x = max 0 (wo st x - ga (s.2.set _ _) x)
          rw [gC x h0, ga_set c (by omega) h0, if_neg (by omega : ¬ x = pa st ((st.length : Int) - 1 - k))]
          by_cases e : x = (st.length : Int) - 1 - k
          · rw [if_pos e, e]
          · rw [if_neg e]; exact i3 x (by omega) h0 h1
        · show ga (s.2.set _ _) x = hangF st _ x (ga (s.1.set _ _))
          rw [hst, hcg, ga_set c (by omega) h0]
          by_cases e : x = pa st ((st.length : Int) - 1 - k)
          · rw [if_pos e, if_pos e.symm, e, i4 _ c (by omega)]
          · rw [if_neg e, if_neg (Ne.symm e), i4 x h0 h1]; omega
      · rw [if_neg (by rw [decide_eq_false c]; exact Bool.false_ne_true)]
        refine ⟨_, rfl, by show (List.set _ _ _).length = _; rw [List.length_set]; exact i1, i2, fun x g1 h0 h1 => ?_, fun x h0 h1 => ?_⟩
        · show ga (s.1.set _ _) x = max 0 (wo st x - ga s.2 x)
          rw [gC x h0]
          by_cases e : x = (st.length : Int) - 1 - k
          · rw [if_pos e, e]
          · rw [if_neg e]; exact i3 x (by omega) h0 h1
        · show ga s.2 x = hangF st _ x (ga (s.1.set _ _))
          rw [hst, hcg, if_neg (by omega), Int.add_zero]
          exact i4 x h0 h1)
  refine ⟨C, ?_, i1, fun x h0 h1 => ?_⟩
  · rw [show ((st.length : Int) - 1 - -1).toNat = st.length from by omega, e, bnd_rtn]
  · rw [i3 x (by omega) h0 h1, i4 x h0 h1, show (st.length : Int) - (st.length : Nat) = 0 from by omega, hangF_all]
theorem hang_nn {x : Int} {g : Int → Int} (h : ∀ c : Int, 0 ≤ c → c < st.length → 0 ≤ g c) : 0 ≤ hang st x g := by
  unfold hang
  have := sm_le (n := st.length) (f := fun _ => 0) (g := fun c => if pa st c = x then g c else 0) fun c c0 c1 => by
    by_cases q : pa st c = x
    · rw [if_pos q]; exact h c c0 c1
    · rw [if_neg q]; exact Int.le_refl _
  rwa [sm_0] at this
/-- what both judges ask -/
def cvb (st : St) (v : List Int) : Bool := (rngI 0 st.length).all fun x => (decide (0 ≤ ga v x) && decide (ga v x ≤ 999)) && decide (wo st x ≤ ga v x + hang st x (ga v))
theorem cov_cvb (G : Good st) (V : Cov st C) : cvb st C = true := by
  refine List.all_eq_true.mpr fun x hx => ?_
  have hx := mem_rngI.mp hx
  have nn : ∀ c : Int, 0 ≤ c → c < st.length → 0 ≤ ga C c := fun c c0 c1 => by rw [V.eq c c0 c1]; omega
  have h1 := V.eq x (by omega) (by omega)
  have h2 := hang_nn (st := st) (x := x) nn
  have w := G.w x (by omega) (by omega)
  simp only [Bool.and_eq_true, decide_eq_true_iff]
  omega
theorem covers_spec (G : Good st) {v : List Int} (hv : v.length = st.length) : T__law_covers st v = rtn (cvb st v) := by
  have h9 := G.le9
  unfold T__law_covers
  simp only [bnd_rtn, bnd_bnd, bnd_rtn']
  rw [rng1_ok (by omega) (by omega), bnd_rtn, forR_any (p := fun x => !((decide (0 ≤ ga v x) && decide (ga v x ≤ 999)) && decide (wo st x ≤ ga v x + hang st x (ga v)))) (a := false) (fun x hx => by
    have hx := mem_rngI.mp hx
    rw [at_ga (by omega) (by omega), bnd_rtn, bnd_rtn]
    rw [compT_filter (p := fun c => decide (pa st c = x)) (g := fun c => ga v c) (fun c hc => by
      have hc := mem_rngI.mp hc
      rw [at_ga (by omega) (by omega), bnd_rtn, at_ga (by omega) (by omega), one_ret]
      rfl), bnd_rtn, sz_ok (by rw [List.length_map]; refine Nat.le_trans (List.length_filter_le _ _) ?_; rw [len_rngI]; omega), bnd_rtn, bnd_rtn]
    have e : (((rngI 0 ((st.length : Int)).toNat).filter fun c => decide (pa st c = x)).map fun c => ga v c).sum = hang st x (ga v) := by
      rw [show ((st.length : Int)).toNat = st.length from by omega, sum_filter]
      unfold hang
      exact sm_congr fun c _ _ => by
        by_cases q : pa st c = x
        · rw [if_pos (decide_eq_true q), if_pos q]
        · rw [if_neg (by rw [decide_eq_false q]; exact Bool.false_ne_true), if_neg q]
    rw [e]
    by_cases q1 : 0 ≤ ga v x
    · by_cases q2 : ga v x ≤ 999
      · rw [if_pos (decide_eq_true q1), bnd_rtn, decide_eq_true q2, decide_eq_true q1]
        simp only [Bool.not_true, Bool.false_eq_true, if_false, Bool.and_self, Bool.true_and]
        rw [at_ga (by omega) (by omega), bnd_rtn, bnd_rtn, show (ga st x).snd = wo st x from rfl]
        by_cases q3 : wo st x ≤ ga v x + hang st x (ga v)
        · rw [decide_eq_true q3, if_neg (by rw [decide_eq_false (by omega)]; exact Bool.false_ne_true)]; rfl
        · rw [decide_eq_false q3, if_pos (decide_eq_true (by omega))]; rfl
      · rw [if_pos (decide_eq_true q1), bnd_rtn, decide_eq_false q2]
        simp
    · rw [if_neg (by rw [decide_eq_false q1]; exact Bool.false_ne_true), bnd_rtn, decide_eq_false q1]
      simp)]
  have e2 : cvb st v = !((rngI 0 ((st.length : Int)).toNat).any fun x => !((decide (0 ≤ ga v x) && decide (ga v x ≤ 999)) && decide (wo st x ≤ ga v x + hang st x (ga v)))) := by
    unfold cvb
    rw [show ((st.length : Int)).toNat = st.length from by omega, List.all_eq_not_any_not]
  rw [e2]
  cases (rngI 0 ((st.length : Int)).toNat).any fun x => !((decide (0 ≤ ga v x) && decide (ga v x ≤ 999)) && decide (wo st x ≤ ga v x + hang st x (ga v))) <;> rfl
theorem covers2_spec (G : Good st) {v : List Int} (hv : v.length = st.length) : T__law_covers_2 st v = rtn (cvb st v) := by
  rw [← covers_spec G hv]
  rfl
theorem is_cover_bad (G : Good st) {v : List Int} (hl : v.length ≤ 1000) (hv : (decide ((v.length : Int) = st.length) && v.all fun x => decide (0 ≤ x) && decide (x ≤ 999)) = false) : T_is_cover st v = rtn false := by
  unfold T_is_cover
  simp only [bnd_rtn, bnd_bnd, bnd_rtn', stand_t G, req_t]
  rw [wholes_I (by omega), bnd_rtn, hv]
  rfl
theorem is_cover_spec (G : Good st) {v : List Int} (hv : v.length = st.length) : T_is_cover st v = rtn (cvb st v) := by
  have h9 := G.le9
  have O := G.toOk
  have hall : (v.all fun x => decide (0 ≤ x) && decide (x ≤ 999)) = (rngI 0 st.length).all fun x => decide (0 ≤ ga v x) && decide (ga v x ≤ 999) := by
    rw [Bool.eq_iff_iff, List.all_eq_true, List.all_eq_true]
    constructor
    · intro h x hx
      have hx := mem_rngI.mp hx
      exact h _ (ga_mem (by omega) (by omega))
    · intro h x hx
      obtain ⟨i, i0, i1, rfl⟩ := mem_ga hx
      exact h i (mem_rngI.mpr (by omega))
  by_cases c : (v.all fun x => decide (0 ≤ x) && decide (x ≤ 999)) = true
  · unfold T_is_cover
    simp only [bnd_rtn, bnd_bnd, bnd_rtn', stand_t G, req_t]
    rw [wholes_I (by omega), bnd_rtn, c, decide_eq_true (by omega : (v.length : Int) = st.length)]
    simp only [Bool.and_self, Bool.not_true, Bool.false_eq_true, if_false]
    rw [enum_eq]
    obtain ⟨s, e1, i1, i2⟩ := for_ix (g := fun (x12 : Int × Int × Int) (s11 : List Int) =>
                  if decide (0 ≤ x12.snd.fst) = true then
                    bnd (augT (fun i j => i + j) s11 x12.snd.fst) fun q =>
                      bnd (atT v x12.fst) fun a => rtn (s11.set q.snd (q.fst + a))
                  else rtn s11)
      (fun k : Nat => ((k : Int), ga st k)) (fun k s => s.length = st.length ∧ ∀ x : Int, 0 ≤ x → x < st.length → ga s x = ga v x + sm k fun c => if pa st c = x then ga v c else 0) (n := st.length) (s := v) ⟨hv, fun x _ _ => by rw [sm_zero, Int.add_zero]⟩ (fun k s hk ⟨i1, i2⟩ => by
        have hp := O.par k (by omega) (by omega)
        show ∃ s', (if decide (0 ≤ pa st k) = true then bnd (augT (fun i j => i + j) s (pa st k)) fun q => bnd (atT v (k : Int)) fun a => rtn (s.set q.snd (q.fst + a)) else rtn s) = rtn s' ∧ _
        by_cases q : 0 ≤ pa st k
        · rw [if_pos (decide_eq_true q), aug_ga q (by omega), bnd_rtn, at_ga (by omega) (by omega), bnd_rtn]
          refine ⟨_, rfl, by rw [List.length_set]; exact i1, fun x h0 h1 => ?_⟩
          rw [ga_set q (by omega) h0, sm_succ]
          by_cases e : x = pa st k
          · rw [if_pos e, if_pos e.symm, e, i2 _ q (by omega)]; omega
          · rw [if_neg e, if_neg (Ne.symm e), i2 x h0 h1]; omega
        · rw [if_neg (by rw [decide_eq_false q]; exact Bool.false_ne_true)]
          refine ⟨_, rfl, i1, fun x h0 h1 => ?_⟩
          rw [sm_succ, if_neg (by omega), i2 x h0 h1]; omega)
    rw [e1, bnd_rtn, compT_map (g := fun x => decide (x.2.2 ≤ x.1)) (fun x _ => by rw [one_t, bnd_rtn]), bnd_rtn, sz_ok (by simp; omega), bnd_rtn]
    congr 1
    rw [List.all_map]
    unfold cvb
    rw [Bool.eq_iff_iff, List.all_eq_true, List.all_eq_true]
    have hall2 := hall ▸ c
    constructor
    · intro h x hx
      have hx' := mem_rngI.mp hx
      have h1 := List.all_eq_true.mp hall2 x hx
      have hz : (ga s x, ga st x) ∈ s.zip st := zip_ga (by omega) (by omega) (by omega)
      have := of_decide_eq_true (h _ hz)
      rw [h1, Bool.true_and, decide_eq_true_iff]
      rw [show ga v x + hang st x (ga v) = ga s x from (i2 x (by omega) (by omega)).symm]
      exact this
    · intro h x hx
      obtain ⟨i, i0, i3, i4, i5⟩ := zip_mem hx
      have := h i (mem_rngI.mpr (by omega))
      rw [Bool.and_eq_true, decide_eq_true_iff] at this
      show decide _ = true
      rw [decide_eq_true_iff, i5]
      have e2 := i2 i (by omega) (by omega)
      show wo st i ≤ ga s i
      rw [e2]
      exact this.2
  · rw [is_cover_bad G (by omega) (by rw [Bool.eq_false_iff.mpr c, Bool.and_false])]
    have : cvb st v = false := by
      rw [Bool.eq_false_iff]
      intro h
      refine c (hall ▸ List.all_eq_true.mpr fun x hx => ?_)
      have := List.all_eq_true.mp h x hx
      rw [Bool.and_eq_true] at this
      exact this.1
    rw [this]
end
end K20

namespace K20
open PySem PySem.Spec Ev Ty
theorem val_s : PyData.strOk ("value" : Str) = true := by decide +kernel
section
variable {st : St}
theorem worth_of_bad {v : List Int} (e : T_are_trees st v = rtn false) : refT (T_worth_of st v) = rtn ("value" : Str) := by
  unfold T_worth_of
  simp only [bnd_rtn, bnd_bnd, bnd_rtn', e, req_f, bnd_rse, ref_rse]
theorem in_sets (G : Good st) {L : List (List Int)} (hL : ∀ p, p ∈ L ↔ Ind st st.length p) {v : List Int} (hv : v.length ≤ 1000) : T_are_trees st v = rtn (inT v L) := by
  obtain ⟨q, e, i⟩ := are_spec G hv
  rw [e]
  congr 1
  rw [Bool.eq_iff_iff, i, inT_iff, hL]
theorem stand_wp : Wp T__law_stand Good := by
  unfold T__law_stand
  simp only [bnd_rtn, bnd_bnd, bnd_rtn', sz_nil, sz_one, sz_two, sz_three]
  refine wp_step (wp_pick (by simp) (by simp)) fun most hmost => ?_
  have hmost : 1 ≤ most ∧ most ≤ 1000 := by simp at hmost; omega
  refine wp_step (wp_taken (by omega) (by omega)) fun what hwhat => ?_
  refine wp_step (wp_taken (by omega) (by omega)) fun a ha => ?_
  rw [rng1_ok (by omega) (by omega), bnd_rtn]
  refine (wp_rng (fun k (s : St) => s.length = k ∧ ∀ x : Int, 0 ≤ x → x < k → (-1 ≤ pa s x ∧ pa s x < x) ∧ 0 ≤ wo s x ∧ wo s x ≤ 999) ⟨rfl, fun x _ _ => by omega⟩ fun k s hk ⟨i1, i2⟩ => ?_).mono fun s ⟨i1, i2⟩ => ?_
  · have hah : Wp (if decide (what = 0) = true then rtn (0 + (k : Int) - 1) else bnd (takenT (0 + (k : Int) + 1)) fun x29 => rtn (x29 - 1)) fun v => -1 ≤ v ∧ v < k := by
      split
      · exact wp_ret (by omega)
      · exact wp_step (wp_taken (by omega) (by omega)) fun v hv => wp_ret (by omega)
    refine wp_step hah fun v hv => ?_
    refine wp_step (wp_taken (by omega) (by omega)) fun w hw => ?_
    rw [app_ok (by omega)]
    refine wp_ret ⟨by simp [i1], fun x x0 x1 => ?_⟩
    have e : ga (s ++ [(v, w)]) x = if x = s.length then (v, w) else if x < s.length then ga s x else default := ga_app x0
    unfold pa wo
    rw [e]
    by_cases c : x = s.length
    · rw [if_pos c]
      show (-1 ≤ v ∧ v < x) ∧ 0 ≤ w ∧ w ≤ 999
      omega
    · rw [if_neg c, if_pos (by omega)]
      exact i2 x x0 (by omega)
  · exact { le := by omega, par := fun x x0 x1 => (i2 x x0 (by omega)).1, ne := by omega, le9 := by omega, w := fun x x0 x1 => (i2 x x0 (by omega)).2 }
/-! ### the odd values -/
theorem asB_raw {F : List PyData → Ev.Row → Res PyData} {xs : List PyData} {q : Bool} (e : ∀ R, F xs R = .ok (.bool q) R) : asB (rawM F xs) = rtn q := by
  funext R
  show (F xs R).bind _ = _
  rw [e]
  rfl
theorem ref_raw {F : List PyData → Ev.Row → Res PyData} {xs : List PyData} {nm : Str} (e : ∀ R, F xs R = .exc nm R) : refT (rawM F xs) = rtn nm := by
  funext R
  unfold refT rawM
  rw [e]
  rfl
theorem ref_rawB {F : List PyData → Ev.Row → Res PyData} {xs : List PyData} {nm : Str} (e : ∀ R, F xs R = .exc nm R) : refT (asB (rawM F xs)) = rtn nm := by
  funext R
  have : asB (rawM F xs) R = .exc nm R := by
    show (F xs R).bind _ = _
    rw [e]
    rfl
  unfold refT
  rw [this]
  rfl
@[simp] theorem rq_t {nm : Str} (R : Ev.Row) : F_require [.bool true, .str nm] R = .ok .none R := Sh.require_t
@[simp] theorem rq_f {nm : Str} (R : Ev.Row) : F_require [.bool false, .str nm] R = .exc nm R := Sh.require_f
def odds : List PyData := [eU (), eT eA [], eP1 (eP2 eI eI) (0, 1), eP1 (eP2 eI eI) (-2, 1), eP1 (eP2 eI eI) (-1, 1000), eP1 (eP2 eI eI) (-1, -1), eL (eP2 eI eI) [(-1, 1)], eT (eP2 eI eI) (List.replicate (Int.toNat 17) (-1, 1)), eP1 (eP2 eI eB) (-1, true)]
theorem odd_f {d : PyData} (h : d ∈ odds) (R : Ev.Row) : F_is_stand [d] R = .ok (.bool false) R := by
  unfold odds at h
  simp only [List.mem_cons, List.mem_nil_iff, or_false] at h
  rcases h with rfl | rfl | rfl | rfl | rfl | rfl | rfl | rfl | rfl <;> rfl
theorem trees_odd {d : PyData} (h : d ∈ odds) (R : Ev.Row) : F_trees [d] R = .exc "stand" R := by
  unfold F_trees den_trees
  simp [callF_def, odd_f h]
theorem worth_odd {d : PyData} (h : d ∈ odds) (R : Ev.Row) : F_worth [d] R = .exc "stand" R := by
  unfold F_worth den_worth
  simp [callF_def, odd_f h]
theorem cover_odd {d : PyData} (h : d ∈ odds) (R : Ev.Row) : F_cover [d] R = .exc "stand" R := by
  unfold F_cover den_cover
  simp [callF_def, odd_f h]
theorem always_odd {d : PyData} (h : d ∈ odds) (R : Ev.Row) : F_always [d] R = .exc "stand" R := by
  unfold F_always den_always
  simp [callF_def, odd_f h]
theorem aret_odd {d v : PyData} (h : d ∈ odds) (R : Ev.Row) : F_are_trees [d, v] R = .exc "stand" R := by
  unfold F_are_trees den_are_trees
  simp [callF_def, odd_f h]
theorem isc_odd {d v : PyData} (h : d ∈ odds) (R : Ev.Row) : F_is_cover [d, v] R = .exc "stand" R := by
  unfold F_is_cover den_is_cover
  simp [callF_def, odd_f h]
variable {H : PyData}
theorem aret_raw {v : PyData} {n : Int} (hK : ∀ R, F_is_stand [H] R = .ok (.bool true) R) (hn : lenD [H] = some (.int n)) (hv : ∀ R, F_is_row [v, .int 0, .int n] R = .ok (.bool false) R) (R : Ev.Row) : F_are_trees [H, v] R = .ok (.bool false) R := by
  unfold F_are_trees den_are_trees
  simp [callF_def, hK, hn, hv]
theorem isc_raw {v : PyData} {n : Int} (hK : ∀ R, F_is_stand [H] R = .ok (.bool true) R) (hn : lenD [H] = some (.int n)) (hv : ∀ R, F_are_wholes [v, .int n, .int 0, .int 999] R = .ok (.bool false) R) (R : Ev.Row) : F_is_cover [H, v] R = .ok (.bool false) R := by
  unfold F_is_cover den_is_cover
  simp [callF_def, hK, hn, hv]
theorem aret_bool {n : Int} (h1 : 1 ≤ n) (hK : ∀ R, F_is_stand [H] R = .ok (.bool true) R) (hn : lenD [H] = some (.int n)) (R : Ev.Row) : F_are_trees [H, eP1 eB false] R = .ok (.bool false) R := by
  have e1 : F_is_row [eP1 eB false, .int 0, .int n] R = .ok (.bool true) R := by
    rw [show F_is_row = Sh.F_is_row from rfl, Sh.is_row_eq rfl]
    simp [Sh.isRowD, eP1, h1]
  have e2 : F_are_wholes [eP1 eB false, .int 1, .int 0, .int (n - 1)] R = .ok (.bool false) R := by
    rw [show F_are_wholes = Sh.F_are_wholes from rfl, Sh.are_wholes_eq rfl (fun xs e => by cases e; decide)]
    rfl
  have e3 : lenD [eP1 eB false] = some (.int 1) := rfl
  unfold F_are_trees den_are_trees
  simp [callF_def, hK, hn, e1, e2, e3]
theorem case_spec : Wp T__law_case fun q => q = true := by
  unfold T__law_case
  simp only [bnd_rtn, bnd_bnd, sz_nil, sz_one, sz_two, sz_three, bnd_rtn']
  refine wp_step stand_wp fun st G => ?_
  have g := G.le9
  have g1 := G.ne
  have O := G.toOk
  obtain ⟨F, K, eFK, S⟩ := sums_spec O
  have mst := rs_most O S
  obtain ⟨L, eLc, lL, mL⟩ := sets_spec G
  rw [eLc, bnd_rtn, compT_map (g := sumw st) (fun p hp => by rw [one_t, sum_ok (by omega) ((mL p).mp hp), bnd_rtn]), bnd_rtn, sz_ok (by rw [List.length_map]; omega), bnd_rtn]
  have hmax : maxE eI (L.map (sumw st)) = rtn (rs st F K) := by
    obtain ⟨⟨p, p1, p2⟩, p3⟩ := mst
    refine maxI_is (List.mem_map.mpr ⟨p, (mL p).mpr p1, p2⟩) fun x hx => ?_
    obtain ⟨q, hq, rfl⟩ := List.mem_map.mp hx
    exact p3 q ((mL q).mp hq)
  rw [hmax, bnd_rtn, compT_sel (p := fun p => decide (sumw st p = rs st F K)) (fun p hp => by rw [sum_ok (by omega) ((mL p).mp hp), bnd_rtn, one_ret]), bnd_rtn, sz_ok (by refine Nat.le_trans (List.length_filter_le _ _) ?_; omega), bnd_rtn]
  have hB : ∀ p, p ∈ L.filter (fun p => decide (sumw st p = rs st F K)) ↔ Ind st st.length p ∧ sumw st p = rs st F K := fun p => by rw [List.mem_filter, mL, decide_eq_true_iff]
  have lB : (L.filter fun p => decide (sumw st p = rs st F K)).length ≤ 512 := Nat.le_trans (List.length_filter_le _ _) lL
  revert hB lB
  generalize L.filter (fun p => decide (sumw st p = rs st F K)) = B
  intro hB lB
  obtain ⟨gI, gg⟩ := gr_spec (F := F) (K := K) O st.length (Nat.le_refl _)
  have gs := sum_eq O S gI gg
  have gl := len_pw gI.pw gI.rng (by omega)
  obtain ⟨C, eC, V⟩ := cover_spec G
  have cl := V.len
  rw [trees_spec G eFK S, bnd_rtn, eC, bnd_rtn, worth_spec G eFK S, bnd_rtn, alike_ok plain_I, bnd_rtn]
  simp only [Bool.not_true, Bool.false_eq_true, if_false]
  rw [show inT (gr st F K st.length) B = true from inT_iff.mpr ((hB _).mpr ⟨gI, gs⟩)]
  simp only [Bool.not_true, Bool.false_eq_true, if_false]
  rw [in_sets G mL (by omega), show inT (gr st F K st.length) L = true from inT_iff.mpr ((mL _).mpr gI), bnd_rtn]
  simp only [Bool.not_true, Bool.false_eq_true, if_false, bnd_rtn, cl, decide_true]
  rw [covers_spec G cl, cov_cvb G V, bnd_rtn]
  simp only [Bool.not_true, Bool.false_eq_true, if_false, bnd_rtn, cov_sum O S V, decide_true]
  rw [is_cover_spec G cl, cov_cvb G V, bnd_rtn]
  simp only [Bool.not_true, Bool.false_eq_true, if_false, bnd_rtn]
  rw [rng1_ok (by omega) (by omega), bnd_rtn, compT_sel (p := fun x => decide (B.filter (fun p => !inT x p) = [])) (fun x hx => by
    rw [compT_sel (p := fun p => !inT x p) (fun y hy => by rw [one_ret]), bnd_rtn, sz_ok (by refine Nat.le_trans (List.length_filter_le _ _) ?_; omega), bnd_rtn, one_ret]), bnd_rtn, sz_ok (by refine Nat.le_trans (List.length_filter_le _ _) ?_; rw [len_rngI]; omega), bnd_rtn]
  have hbest : T_best_of st = rtn (rs st F K) := by
    unfold T_best_of
    simp only [bnd_rtn, bnd_bnd, bnd_rtn', eFK]
    exact best_sum O eFK S
  rw [always_spec G mst hbest hB, bnd_rtn, show ((st.length : Int)).toNat = st.length from by omega, alike_ok (plain_T (fun _ _ => plain_I) (by refine Nat.le_trans (List.length_filter_le _ _) ?_; rw [len_rngI]; omega)), bnd_rtn]
  simp only [Bool.not_true, Bool.false_eq_true, if_false]
  refine wp_thn (P := fun _ => True) ?_ fun _ _ => ?_
  · rw [rng1_ok (by omega) (by omega), bnd_rtn]
    refine wp_forR (fun _ _ => True) trivial fun pre x suf s _ _ => ?_
    refine wp_step (wp_taken (by omega) (by omega)) fun k5 hk5 => ?_
    rw [rng1_ok (by omega) (by omega), bnd_rtn]
    refine wp_step (wp_draws0 (by omega) (by omega)) fun ys ⟨hyl, hy⟩ => ?_
    rw [len_rngI] at hyl
    rw [sz_ok (by omega), bnd_rtn, sortSet_ok (by omega), bnd_rtn]
    have hv : (sSet ys).length ≤ 1000 := Nat.le_trans (len_sSet _) (by omega)
    revert hv
    generalize sSet ys = v
    intro hv
    have eR := in_sets G mL hv
    rw [eR, bnd_rtn]
    simp only [decide_true, Bool.not_true, Bool.false_eq_true, if_false]
    have hw1 : (if inT v L = true then bnd (T_worth_of st v) fun a => bnd (T__law_sum st v) fun a_8 => bnd (alikeT 8 (eI a) (eI a_8)) fun b => rtn !b else rtn false) = rtn false := by
      split
      · rename_i q
        have w := (mL v).mp (inT_iff.mp q)
        rw [worth_of_spec G w, bnd_rtn, sum_ok (by omega) w, bnd_rtn, alike_ok plain_I, bnd_rtn]
        rfl
      · rfl
    rw [hw1, bnd_rtn, if_neg Bool.false_ne_true]
    have hw : (if (!inT v L) = true then bnd (refT (T_worth_of st v)) fun x194 => neG eS x194 (Str.ofString "value") else rtn false) = rtn false := by
      cases q : inT v L with
      | true => rfl
      | false =>
        rw [q] at eR
        rw [worth_of_bad eR, bnd_rtn, neG_ok (by
          show (PyData.strOk _ && PyData.strOk _) = true
          rw [show PyData.strOk (Str.ofString "value") = true from val_s]
          rfl)]
        simp
    rw [hw, bnd_rtn, if_neg Bool.false_ne_true]
    refine wp_step (wp_taken (by omega) (by omega)) fun at_ hat => ?_
    rw [at_ga (by omega) (by omega), bnd_rtn]
    refine wp_step (wp_taken (by omega) (by omega)) fun c5 hc5 => ?_
    rw [set_ga (by omega) (by omega), bnd_rtn, is_cover_spec G (by rw [List.length_set]; omega), bnd_rtn, covers2_spec G (by rw [List.length_set]; omega), bnd_rtn]
    simp only [decide_true, Bool.not_true, Bool.false_eq_true, if_false]
    exact wp_ret ⟨(), rfl, trivial⟩
  · have hK : ∀ R, F_is_stand [eT (eP2 eI eI) st] R = .ok (.bool true) R := fun R => by
      have := r_is_stand st
      rw [stand_t G] at this
      exact this.val R
    have hn : lenD [eT (eP2 eI eI) st] = some (.int st.length) := by simp [eT]
    have hc : ∀ v : List Int, v.length ≤ 1000 → ¬ Ind st st.length v → ∀ R, F_are_trees [eT (eP2 eI eI) st, eT eI v] R = .ok (.bool false) R := by
      intro v hv hno R
      obtain ⟨q, e, i⟩ := are_spec G hv
      have hq : q = false := by
        rw [Bool.eq_false_iff]
        exact fun hq => hno (i.mp hq)
      have := r_are_trees st v
      rw [e, hq] at this
      exact this.val R
    have hp : ∀ v : List Int, v.length ≤ 1000 → (decide ((v.length : Int) = st.length) && v.all fun x => decide (0 ≤ x) && decide (x ≤ 999)) = false → ∀ R, F_is_cover [eT (eP2 eI eI) st, eT eI v] R = .ok (.bool false) R := by
      intro v hv hno R
      have := r_is_cover st v
      rw [is_cover_bad G hv hno] at this
      exact this.val R
    have hL : ∀ t : List Int, dataD (eL eI t) = true := fun t => dataAll (xs := t.map eI) fun x hx => by
      obtain ⟨i, _, rfl⟩ := List.mem_map.mp hx
      rfl
    have hW : ∀ x ∈ [eU (), eL eI (gr st F K st.length), eP2 eI eI (0, 0), eP1 eI (st.length : Int), eP1 eI (-1), eP1 eB false], ∀ R, F_are_trees [eT (eP2 eI eI) st, eA x] R = .ok (.bool false) R := by
      intro x hx
      simp only [List.mem_cons, List.mem_nil_iff, or_false] at hx
      rcases hx with rfl | rfl | rfl | rfl | rfl | rfl
      · exact aret_raw hK hn fun R => by rw [show F_is_row = Sh.F_is_row from rfl]; exact Sh.is_row_eq rfl
      · exact aret_raw hK hn fun R => by rw [show F_is_row = Sh.F_is_row from rfl]; exact Sh.is_row_eq (hL _)
      · exact hc [0, 0] (by simp) fun I => by have := (List.pairwise_cons.mp I.pw).1 0 (by simp); omega
      · exact hc [(st.length : Int)] (by simp) fun I => by have := I.rng _ List.mem_cons_self; omega
      · exact hc [-1] (by simp) fun I => by have := I.rng _ List.mem_cons_self; omega
      · exact aret_bool (by omega) hK hn
    have hP : ∀ x ∈ [eU (), eL eI C, eT eI (C ++ [0]), eT eI (List.replicate ((st.length : Int)).toNat (-1)), eT eI (List.replicate ((st.length : Int)).toNat 1000)], ∀ R, F_is_cover [eT (eP2 eI eI) st, eA x] R = .ok (.bool false) R := by
      have hin : ∀ z : Int, ¬ (0 ≤ z ∧ z ≤ 999) → ((List.replicate ((st.length : Int)).toNat z).all fun x => decide (0 ≤ x) && decide (x ≤ 999)) = false := fun z hz => by
        obtain ⟨m, hm⟩ : ∃ m, ((st.length : Int)).toNat = m + 1 := ⟨st.length - 1, by omega⟩
        rw [hm, List.replicate_succ, Bool.eq_false_iff]
        intro h
        have := List.all_eq_true.mp h z List.mem_cons_self
        simp only [Bool.and_eq_true, decide_eq_true_iff] at this
        exact hz this
      intro x hx
      simp only [List.mem_cons, List.mem_nil_iff, or_false] at hx
      rcases hx with rfl | rfl | rfl | rfl | rfl
      · exact isc_raw hK hn fun R => by rw [show F_are_wholes = Sh.F_are_wholes from rfl]; exact Sh.are_wholes_eq rfl (fun xs e => by cases e)
      · exact isc_raw hK hn fun R => by rw [show F_are_wholes = Sh.F_are_wholes from rfl]; exact Sh.are_wholes_eq (d := eL eI C) (hL _) (fun xs e => by cases e)
      · refine hp _ (by simp; omega) ?_
        rw [decide_eq_false (by simp; omega), Bool.false_and]
      · exact hp _ (by simp; omega) (by rw [hin _ (by omega), Bool.and_false])
      · exact hp _ (by simp; omega) (by rw [hin _ (by omega), Bool.and_false])
    rw [sz_ok (by simp), bnd_rtn, compT_map (g := fun _ => false) (fun x hx => by rw [one_t, asB_raw (hW x hx), bnd_rtn]), bnd_rtn, sz_ok (by simp), bnd_rtn, cat_ok (by simp; omega), bnd_rtn, rep_okT (by omega) (by omega), bnd_rtn, rep_okT (by omega) (by omega), bnd_rtn, sz_ok (by simp), bnd_rtn,
      compT_map (g := fun _ => false) (fun x hx => by rw [one_t, asB_raw (hP x hx), bnd_rtn]), bnd_rtn, sz_ok (by simp), bnd_rtn, cat_ok (by simp), bnd_rtn, rep_okT (by omega) (by omega), bnd_rtn, sz_ok (by simp), bnd_rtn]
    refine wp_step (wp_pick (by simp) (by simp)) fun odd hodd => ?_
    have hodd : odd ∈ odds := hodd
    simp only [eA]
    rw [ref_raw (trees_odd hodd), bnd_rtn, ref_raw (worth_odd hodd), bnd_rtn, ref_raw (cover_odd hodd), bnd_rtn, ref_raw (always_odd hodd), bnd_rtn, ref_rawB (aret_odd hodd), bnd_rtn, ref_rawB (isc_odd hodd), bnd_rtn, sz_ok (by simp), bnd_rtn, rep_ok (by omega) (by omega), bnd_rtn]
    rw [if_pos (by rfl), rep_ok (by omega) (by omega), bnd_rtn]
    have hs1 : (shp 9 (eL eS ["stand", "stand", "stand", "stand", "stand", "stand"]) && shp 9 (eL eS ["stand", "stand", "stand", "stand", "stand", "stand"])) = true := by decide +kernel
    rw [show List.replicate (6 : Int).toNat (Str.ofString "stand") = (["stand", "stand", "stand", "stand", "stand", "stand"] : List Str) from rfl, eqG_ok (e := eL eS) hs1]
    exact wp_ret rfl
end
theorem law_true : ∀ ns : List Int, ns.length ≤ 63 → (∀ z ∈ ns, Builtin.Int.intBits z ≤ 1048576) → ∃ R', den_law [none, some rowD, none] ⟨ns, 0, 20011, 0⟩ = .ok (.rt (.bool true)) R' := fun ns _ _ =>
  law_done 4 (by omega) r__law_case case_spec ns 20011
end K20

namespace K20
open PySem PySem.Spec PyProof.Rows L2 Ev LamX
abbrev s_init : Stmt := inClass (top 1) 0

theorem all_mk {l : PySem.W.OpenLaw} {w : World} {K : PySem.W.Frag} {h : Heap} {mg : Str → Option Value} {fa : Addr} (X : K.In h) (G : h.Ns mainGlobals mg) (hfa : mg "law" = some (.ref fa))
    (hden : ∀ ns : List Int, ns.length ≤ 63 → (∀ z ∈ ns, Builtin.Int.intBits z ≤ 1048576) → ∃ R', den_law [none, some rowD, none] ⟨ns, 0, 20011, 0⟩ = .ok (.rt (.bool true)) R')
    {C fI a_require a_is_whole a_is_row a_are_wholes a_is_stand a_sums_of a_worth a_trees a_are_trees a_worth_of a_cover a_is_cover a_always a_best_of a__law_taken a__law_pick a__law_refused a__law_alike a__law_stand a__law_sets a__law_sum a__law_covers a__law_case a_law cc PP : Addr} {nm q : Str} {N : Addr} {bs : List Value} {sn : List Str} {sub : List Value} {ab : Bool} {col : Option Bool} {dd : Option Addr} {m0 m1 m2 m3 m5 : Option Value}
    {oc_i kV_i dc_i pm_i ct_i oc_require kV_require dc_require pm_require ct_require oc_is_whole kV_is_whole dc_is_whole pm_is_whole ct_is_whole oc_is_row kV_is_row dc_is_row pm_is_row ct_is_row oc_are_wholes kV_are_wholes dc_are_wholes pm_are_wholes ct_are_wholes oc_is_stand kV_is_stand dc_is_stand pm_is_stand ct_is_stand oc_sums_of kV_sums_of dc_sums_of pm_sums_of ct_sums_of oc_worth kV_worth dc_worth pm_worth ct_worth oc_trees kV_trees dc_trees pm_trees ct_trees oc_are_trees kV_are_trees dc_are_trees pm_are_trees ct_are_trees oc_worth_of kV_worth_of dc_worth_of pm_worth_of ct_worth_of oc_cover kV_cover dc_cover pm_cover ct_cover oc_is_cover kV_is_cover dc_is_cover pm_is_cover ct_is_cover oc_always kV_always dc_always pm_always ct_always oc_best_of kV_best_of dc_best_of pm_best_of ct_best_of oc__law_taken kV__law_taken dc__law_taken pm__law_taken ct__law_taken oc__law_pick kV__law_pick dc__law_pick pm__law_pick ct__law_pick oc__law_refused kV__law_refused dc__law_refused pm__law_refused ct__law_refused oc__law_alike kV__law_alike dc__law_alike pm__law_alike ct__law_alike oc__law_stand kV__law_stand dc__law_stand pm__law_stand ct__law_stand oc__law_sets kV__law_sets dc__law_sets pm__law_sets ct__law_sets oc__law_sum kV__law_sum dc__law_sum pm__law_sum ct__law_sum oc__law_covers kV__law_covers dc__law_covers pm__law_covers ct__law_covers oc__law_case kV__law_case dc__law_case pm__law_case ct__law_case oc_law kV_law dc_law pm_law ct_law cd_i cd_require cd_is_whole cd_is_row cd_are_wholes cd_is_stand cd_sums_of cd_worth cd_trees cd_are_trees cd_worth_of cd_cover cd_is_cover cd_always cd_best_of cd__law_taken cd__law_pick cd__law_refused cd__law_alike cd__law_stand cd__law_sets cd__law_sum cd__law_covers cd_law : Value} {od_i an_i od_require an_require od_is_whole an_is_whole od_is_row an_is_row od_are_wholes an_are_wholes od_is_stand an_is_stand od_sums_of an_sums_of od_worth an_worth od_trees an_trees od_are_trees an_are_trees od_worth_of an_worth_of od_cover an_cover od_is_cover an_is_cover od_always an_always od_best_of an_best_of od__law_taken an__law_taken od__law_pick an__law_pick od__law_refused an__law_refused od__law_alike an__law_alike od__law_stand an__law_stand od__law_sets an__law_sets od__law_sum an__law_sum od__law_covers an__law_covers od__law_case an__law_case od_law an_law : Option Addr} {sl_i sl_require sl_is_whole sl_is_row sl_are_wholes sl_is_stand sl_sums_of sl_worth sl_trees sl_are_trees sl_worth_of sl_cover sl_is_cover sl_always sl_best_of sl__law_taken sl__law_pick sl__law_refused sl__law_alike sl__law_stand sl__law_sets sl__law_sum sl__law_covers sl__law_case sl_law : Array (Option Value)} {t_MOST_TREES t_MOST_WORTH t_NONE : Tok}
    (aC : PySem.W.nsIn K mainGlobals "BadArgument" = some (some (.ref C)))
    (xL : K.lookup C = some (excClassObj nm q C N bs [.type "ValueError", .type "Exception", .type "BaseException", .type "object"] true sn sub ab col dd m0 m1 m2 m3 m5 "ValueError.__new__"))
    (sa : PySem.W.findIn K (.ref C) "__setattr__" = some (some (.builtin "object.__setattr__")))
    (ga : PySem.W.findIn K (.ref C) "__getattribute__" = some (some (.builtin "BaseException.__getattribute__")))
    (gg : PySem.W.findIn K (.ref C) "__getattr__" = some none)
    (nb : PySem.W.findIn K (.ref C) "name" = some none)
    (ai : PySem.W.findIn K (.ref C) "__init__" = some (some (.ref fI)))
    (ti : PySem.W.typeIn K (.ref fI) = some (.type "function"))
    (li : K.lookup fI = some ⟨oc_i, od_i, .func (PySem.W.fnOf "__init__" "BadArgument.__init__" (defArgs s_init) (defBody s_init) (defScope s_init) .none kV_i dc_i pm_i an_i cd_i ct_i), sl_i⟩)
    (ci : PySem.W.codeIn K cd_i "BadArgument.__init__" = true)
    (ki : PySem.W.keepIn K (.ref fI) = true)
    (kC : PySem.W.keepIn K (.ref C) = true)
    (eC : PySem.W.subIn K (.ref C) (.type "BaseException") = some true)
    (tC : PySem.W.typeIn K (.ref C) = some (.type "type"))
    (hC : PySem.W.hasDictIn K C = true)
    (iC : PySem.W.isClsIn K C = true)
    (sC : PySem.W.subIn K (.ref C) (.ref C) = some true)
    (n_require : PySem.W.nsIn K mainGlobals "require" = some (some (.ref a_require)))
    (l_require : K.lookup a_require = some ⟨oc_require, od_require, .func (PySem.W.fnOf "require" "require" (defArgs s_require) (defBody s_require) (defScope s_require) .none kV_require dc_require pm_require an_require cd_require ct_require), sl_require⟩)
    (c_require : PySem.W.codeIn K cd_require "require" = true)
    (k_require : PySem.W.keepIn K (.ref a_require) = true)
    (n_is_whole : PySem.W.nsIn K mainGlobals "is_whole" = some (some (.ref a_is_whole)))
    (l_is_whole : K.lookup a_is_whole = some ⟨oc_is_whole, od_is_whole, .func (PySem.W.fnOf "is_whole" "is_whole" (defArgs s_is_whole) (defBody s_is_whole) (defScope s_is_whole) .none kV_is_whole dc_is_whole pm_is_whole an_is_whole cd_is_whole ct_is_whole), sl_is_whole⟩)
    (c_is_whole : PySem.W.codeIn K cd_is_whole "is_whole" = true)
    (k_is_whole : PySem.W.keepIn K (.ref a_is_whole) = true)
    (n_is_row : PySem.W.nsIn K mainGlobals "is_row" = some (some (.ref a_is_row)))
    (l_is_row : K.lookup a_is_row = some ⟨oc_is_row, od_is_row, .func (PySem.W.fnOf "is_row" "is_row" (defArgs s_is_row) (defBody s_is_row) (defScope s_is_row) .none kV_is_row dc_is_row pm_is_row an_is_row cd_is_row ct_is_row), sl_is_row⟩)
    (c_is_row : PySem.W.codeIn K cd_is_row "is_row" = true)
    (k_is_row : PySem.W.keepIn K (.ref a_is_row) = true)
    (n_are_wholes : PySem.W.nsIn K mainGlobals "are_wholes" = some (some (.ref a_are_wholes)))
    (l_are_wholes : K.lookup a_are_wholes = some ⟨oc_are_wholes, od_are_wholes, .func (PySem.W.fnOf "are_wholes" "are_wholes" (defArgs s_are_wholes) (defBody s_are_wholes) (defScope s_are_wholes) .none kV_are_wholes dc_are_wholes pm_are_wholes an_are_wholes cd_are_wholes ct_are_wholes), sl_are_wholes⟩)
    (c_are_wholes : PySem.W.codeIn K cd_are_wholes "are_wholes" = true)
    (k_are_wholes : PySem.W.keepIn K (.ref a_are_wholes) = true)
    (n_is_stand : PySem.W.nsIn K mainGlobals "is_stand" = some (some (.ref a_is_stand)))
    (l_is_stand : K.lookup a_is_stand = some ⟨oc_is_stand, od_is_stand, .func (PySem.W.fnOf "is_stand" "is_stand" (defArgs s_is_stand) (defBody s_is_stand) (defScope s_is_stand) .none kV_is_stand dc_is_stand pm_is_stand an_is_stand cd_is_stand ct_is_stand), sl_is_stand⟩)
    (c_is_stand : PySem.W.codeIn K cd_is_stand "is_stand" = true)
    (k_is_stand : PySem.W.keepIn K (.ref a_is_stand) = true)
    (n_sums_of : PySem.W.nsIn K mainGlobals "sums_of" = some (some (.ref a_sums_of)))
    (l_sums_of : K.lookup a_sums_of = some ⟨oc_sums_of, od_sums_of, .func (PySem.W.fnOf "sums_of" "sums_of" (defArgs s_sums_of) (defBody s_sums_of) (defScope s_sums_of) .none kV_sums_of dc_sums_of pm_sums_of an_sums_of cd_sums_of ct_sums_of), sl_sums_of⟩)
    (c_sums_of : PySem.W.codeIn K cd_sums_of "sums_of" = true)
    (k_sums_of : PySem.W.keepIn K (.ref a_sums_of) = true)
    (n_worth : PySem.W.nsIn K mainGlobals "worth" = some (some (.ref a_worth)))
    (l_worth : K.lookup a_worth = some ⟨oc_worth, od_worth, .func (PySem.W.fnOf "worth" "worth" (defArgs s_worth) (defBody s_worth) (defScope s_worth) .none kV_worth dc_worth pm_worth an_worth cd_worth ct_worth), sl_worth⟩)
    (c_worth : PySem.W.codeIn K cd_worth "worth" = true)
    (k_worth : PySem.W.keepIn K (.ref a_worth) = true)
    (n_trees : PySem.W.nsIn K mainGlobals "trees" = some (some (.ref a_trees)))
    (l_trees : K.lookup a_trees = some ⟨oc_trees, od_trees, .func (PySem.W.fnOf "trees" "trees" (defArgs s_trees) (defBody s_trees) (defScope s_trees) .none kV_trees dc_trees pm_trees an_trees cd_trees ct_trees), sl_trees⟩)
    (c_trees : PySem.W.codeIn K cd_trees "trees" = true)
    (k_trees : PySem.W.keepIn K (.ref a_trees) = true)
    (n_are_trees : PySem.W.nsIn K mainGlobals "are_trees" = some (some (.ref a_are_trees)))
    (l_are_trees : K.lookup a_are_trees = some ⟨oc_are_trees, od_are_trees, .func (PySem.W.fnOf "are_trees" "are_trees" (defArgs s_are_trees) (defBody s_are_trees) (defScope s_are_trees) .none kV_are_trees dc_are_trees pm_are_trees an_are_trees cd_are_trees ct_are_trees), sl_are_trees⟩)
    (c_are_trees : PySem.W.codeIn K cd_are_trees "are_trees" = true)
    (k_are_trees : PySem.W.keepIn K (.ref a_are_trees) = true)
    (n_worth_of : PySem.W.nsIn K mainGlobals "worth_of" = some (some (.ref a_worth_of)))
    (l_worth_of : K.lookup a_worth_of = some ⟨oc_worth_of, od_worth_of, .func (PySem.W.fnOf "worth_of" "worth_of" (defArgs s_worth_of) (defBody s_worth_of) (defScope s_worth_of) .none kV_worth_of dc_worth_of pm_worth_of an_worth_of cd_worth_of ct_worth_of), sl_worth_of⟩)
    (c_worth_of : PySem.W.codeIn K cd_worth_of "worth_of" = true)
    (k_worth_of : PySem.W.keepIn K (.ref a_worth_of) = true)
    (n_cover : PySem.W.nsIn K mainGlobals "cover" = some (some (.ref a_cover)))
    (l_cover : K.lookup a_cover = some ⟨oc_cover, od_cover, .func (PySem.W.fnOf "cover" "cover" (defArgs s_cover) (defBody s_cover) (defScope s_cover) .none kV_cover dc_cover pm_cover an_cover cd_cover ct_cover), sl_cover⟩)
    (c_cover : PySem.W.codeIn K cd_cover "cover" = true)
    (k_cover : PySem.W.keepIn K (.ref a_cover) = true)
    (n_is_cover : PySem.W.nsIn K mainGlobals "is_cover" = some (some (.ref a_is_cover)))
    (l_is_cover : K.lookup a_is_cover = some ⟨oc_is_cover, od_is_cover, .func (PySem.W.fnOf "is_cover" "is_cover" (defArgs s_is_cover) (defBody s_is_cover) (defScope s_is_cover) .none kV_is_cover dc_is_cover pm_is_cover an_is_cover cd_is_cover ct_is_cover), sl_is_cover⟩)
    (c_is_cover : PySem.W.codeIn K cd_is_cover "is_cover" = true)
    (k_is_cover : PySem.W.keepIn K (.ref a_is_cover) = true)
    (n_always : PySem.W.nsIn K mainGlobals "always" = some (some (.ref a_always)))
    (l_always : K.lookup a_always = some ⟨oc_always, od_always, .func (PySem.W.fnOf "always" "always" (defArgs s_always) (defBody s_always) (defScope s_always) .none kV_always dc_always pm_always an_always cd_always ct_always), sl_always⟩)
    (c_always : PySem.W.codeIn K cd_always "always" = true)
    (k_always : PySem.W.keepIn K (.ref a_always) = true)
    (n_best_of : PySem.W.nsIn K mainGlobals "best_of" = some (some (.ref a_best_of)))
    (l_best_of : K.lookup a_best_of = some ⟨oc_best_of, od_best_of, .func (PySem.W.fnOf "best_of" "best_of" (defArgs s_best_of) (defBody s_best_of) (defScope s_best_of) .none kV_best_of dc_best_of pm_best_of an_best_of cd_best_of ct_best_of), sl_best_of⟩)
    (c_best_of : PySem.W.codeIn K cd_best_of "best_of" = true)
    (k_best_of : PySem.W.keepIn K (.ref a_best_of) = true)
    (n__law_taken : PySem.W.nsIn K mainGlobals "_law_taken" = some (some (.ref a__law_taken)))
    (l__law_taken : K.lookup a__law_taken = some ⟨oc__law_taken, od__law_taken, .func (PySem.W.fnOf "_law_taken" "_law_taken" (defArgs s__law_taken) (defBody s__law_taken) (defScope s__law_taken) .none kV__law_taken dc__law_taken pm__law_taken an__law_taken cd__law_taken ct__law_taken), sl__law_taken⟩)
    (c__law_taken : PySem.W.codeIn K cd__law_taken "_law_taken" = true)
    (k__law_taken : PySem.W.keepIn K (.ref a__law_taken) = true)
    (n__law_pick : PySem.W.nsIn K mainGlobals "_law_pick" = some (some (.ref a__law_pick)))
    (l__law_pick : K.lookup a__law_pick = some ⟨oc__law_pick, od__law_pick, .func (PySem.W.fnOf "_law_pick" "_law_pick" (defArgs s__law_pick) (defBody s__law_pick) (defScope s__law_pick) .none kV__law_pick dc__law_pick pm__law_pick an__law_pick cd__law_pick ct__law_pick), sl__law_pick⟩)
    (c__law_pick : PySem.W.codeIn K cd__law_pick "_law_pick" = true)
    (k__law_pick : PySem.W.keepIn K (.ref a__law_pick) = true)
    (n__law_refused : PySem.W.nsIn K mainGlobals "_law_refused" = some (some (.ref a__law_refused)))
    (l__law_refused : K.lookup a__law_refused = some ⟨oc__law_refused, od__law_refused, .func (PySem.W.fnOf "_law_refused" "_law_refused" (defArgs s__law_refused) (defBody s__law_refused) (defScope s__law_refused) .none kV__law_refused dc__law_refused pm__law_refused an__law_refused cd__law_refused ct__law_refused), sl__law_refused⟩)
    (c__law_refused : PySem.W.codeIn K cd__law_refused "_law_refused" = true)
    (k__law_refused : PySem.W.keepIn K (.ref a__law_refused) = true)
    (n__law_alike : PySem.W.nsIn K mainGlobals "_law_alike" = some (some (.ref a__law_alike)))
    (l__law_alike : K.lookup a__law_alike = some ⟨oc__law_alike, od__law_alike, .func (PySem.W.fnOf "_law_alike" "_law_alike" (defArgs s__law_alike) (defBody s__law_alike) (defScope s__law_alike) .none kV__law_alike dc__law_alike pm__law_alike an__law_alike cd__law_alike ct__law_alike), sl__law_alike⟩)
    (c__law_alike : PySem.W.codeIn K cd__law_alike "_law_alike" = true)
    (k__law_alike : PySem.W.keepIn K (.ref a__law_alike) = true)
    (n__law_stand : PySem.W.nsIn K mainGlobals "_law_stand" = some (some (.ref a__law_stand)))
    (l__law_stand : K.lookup a__law_stand = some ⟨oc__law_stand, od__law_stand, .func (PySem.W.fnOf "_law_stand" "_law_stand" (defArgs s__law_stand) (defBody s__law_stand) (defScope s__law_stand) .none kV__law_stand dc__law_stand pm__law_stand an__law_stand cd__law_stand ct__law_stand), sl__law_stand⟩)
    (c__law_stand : PySem.W.codeIn K cd__law_stand "_law_stand" = true)
    (k__law_stand : PySem.W.keepIn K (.ref a__law_stand) = true)
    (n__law_sets : PySem.W.nsIn K mainGlobals "_law_sets" = some (some (.ref a__law_sets)))
    (l__law_sets : K.lookup a__law_sets = some ⟨oc__law_sets, od__law_sets, .func (PySem.W.fnOf "_law_sets" "_law_sets" (defArgs s__law_sets) (defBody s__law_sets) (defScope s__law_sets) .none kV__law_sets dc__law_sets pm__law_sets an__law_sets cd__law_sets ct__law_sets), sl__law_sets⟩)
    (c__law_sets : PySem.W.codeIn K cd__law_sets "_law_sets" = true)
    (k__law_sets : PySem.W.keepIn K (.ref a__law_sets) = true)
    (n__law_sum : PySem.W.nsIn K mainGlobals "_law_sum" = some (some (.ref a__law_sum)))
    (l__law_sum : K.lookup a__law_sum = some ⟨oc__law_sum, od__law_sum, .func (PySem.W.fnOf "_law_sum" "_law_sum" (defArgs s__law_sum) (defBody s__law_sum) (defScope s__law_sum) .none kV__law_sum dc__law_sum pm__law_sum an__law_sum cd__law_sum ct__law_sum), sl__law_sum⟩)
    (c__law_sum : PySem.W.codeIn K cd__law_sum "_law_sum" = true)
    (k__law_sum : PySem.W.keepIn K (.ref a__law_sum) = true)
    (n__law_covers : PySem.W.nsIn K mainGlobals "_law_covers" = some (some (.ref a__law_covers)))
    (l__law_covers : K.lookup a__law_covers = some ⟨oc__law_covers, od__law_covers, .func (PySem.W.fnOf "_law_covers" "_law_covers" (defArgs s__law_covers) (defBody s__law_covers) (defScope s__law_covers) .none kV__law_covers dc__law_covers pm__law_covers an__law_covers cd__law_covers ct__law_covers), sl__law_covers⟩)
    (c__law_covers : PySem.W.codeIn K cd__law_covers "_law_covers" = true)
    (k__law_covers : PySem.W.keepIn K (.ref a__law_covers) = true)
    (n__law_case : PySem.W.nsIn K mainGlobals "_law_case" = some (some (.ref a__law_case)))
    (l__law_case : K.lookup a__law_case = some ⟨oc__law_case, od__law_case, .func (PySem.W.fnOf "_law_case" "_law_case" (defArgs s__law_case) (defBody s__law_case) (defScope s__law_case) .none kV__law_case dc__law_case pm__law_case an__law_case (.ref cc) ct__law_case), sl__law_case⟩)
    (c__law_case : PySem.W.codeIn K (.ref cc) "_law_case" = true)
    (k__law_case : PySem.W.keepIn K (.ref a__law_case) = true)
    (n_law : PySem.W.nsIn K mainGlobals "law" = some (some (.ref a_law)))
    (l_law : K.lookup a_law = some ⟨oc_law, od_law, .func (PySem.W.fnOf "law" "law" (defArgs s_law) (defBody s_law) (defScope s_law) .none kV_law dc_law pm_law an_law cd_law ct_law), sl_law⟩)
    (c_law : PySem.W.codeIn K cd_law "law" = true)
    (k_law : PySem.W.keepIn K (.ref a_law) = true)
    (z_MOST_TREES : PySem.W.nsIn K mainGlobals "MOST_TREES" = some (some (.int 16 t_MOST_TREES)))
    (z_MOST_WORTH : PySem.W.nsIn K mainGlobals "MOST_WORTH" = some (some (.int 999 t_MOST_WORTH)))
    (z_NONE : PySem.W.nsIn K mainGlobals "NONE" = some (some (.int (-1) t_NONE)))
    (b_len : PySem.W.nsIn K mainGlobals "len" = some none)
    (b_int : PySem.W.nsIn K mainGlobals "int" = some none)
    (b_abs : PySem.W.nsIn K mainGlobals "abs" = some none)
    (b_max : PySem.W.nsIn K mainGlobals "max" = some none)
    (b_min : PySem.W.nsIn K mainGlobals "min" = some none)
    (b_sum : PySem.W.nsIn K mainGlobals "sum" = some none)
    (b_all : PySem.W.nsIn K mainGlobals "all" = some none)
    (b_any : PySem.W.nsIn K mainGlobals "any" = some none)
    (b_tuple : PySem.W.nsIn K mainGlobals "tuple" = some none)
    (b_list : PySem.W.nsIn K mainGlobals "list" = some none)
    (b_isinstance : PySem.W.nsIn K mainGlobals "isinstance" = some none)
    (b_bool : PySem.W.nsIn K mainGlobals "bool" = some none)
    (b_range : PySem.W.nsIn K mainGlobals "range" = some none)
    (b_sorted : PySem.W.nsIn K mainGlobals "sorted" = some none)
    (b_zip : PySem.W.nsIn K mainGlobals "zip" = some none)
    (b_enumerate : PySem.W.nsIn K mainGlobals "enumerate" = some none)
    (b_str : PySem.W.nsIn K mainGlobals "str" = some none)
    (b_set : PySem.W.nsIn K mainGlobals "set" = some none)
    (b_dict : PySem.W.nsIn K mainGlobals "dict" = some none)
    (tb : h.get? PP = some { cls := .none, data := .fields #[] })
    (nT : K.lookup PP = none)
    (cH : PySem.W.codeHdIn K cc PP = true)
    : LawAtS l w K (L2.CX l.prog w) 10 63 "script" mg fa h := by
  have e := hfa.symm.trans (PySem.W.mg_of X G n_law)
  cases e
  have bl : Blts mg := ⟨PySem.W.mg_none_of X G b_len, PySem.W.mg_none_of X G b_int, PySem.W.mg_none_of X G b_abs, PySem.W.mg_none_of X G b_max, PySem.W.mg_none_of X G b_min, PySem.W.mg_none_of X G b_sum, PySem.W.mg_none_of X G b_all, PySem.W.mg_none_of X G b_any, PySem.W.mg_none_of X G b_tuple, PySem.W.mg_none_of X G b_list, PySem.W.mg_none_of X G b_isinstance, PySem.W.mg_none_of X G b_bool, PySem.W.mg_none_of X G b_range, PySem.W.mg_none_of X G b_sorted, PySem.W.mg_none_of X G b_zip, PySem.W.mg_none_of X G b_enumerate, PySem.W.mg_none_of X G b_str, PySem.W.mg_none_of X G b_set, PySem.W.mg_none_of X G b_dict⟩
  refine ⟨PySem.W.fnOf "law" "law" (defArgs s_law) (defBody s_law) (defScope s_law) .none kV_law dc_law pm_law an_law cd_law ct_law, [(cc, PP)], spLaw K ⟨C, [(PP, (("_law_case" : Str) ++ ".<locals>.") ++ "<lambda>")]⟩, (fun p hp => by rw [List.mem_singleton.mp hp]; exact tb), (fun p hp => by rw [List.mem_singleton.mp hp]; exact nT), (fun p hp => by rw [List.mem_singleton.mp hp]; exact PySem.W.codeHd_of_K X cH), fun s u => .of_eq rfl, fun H a ns h1 h2 hH hS => ⟨a, ns, rfl, hS, h1, h2, fun p hp => by rw [List.mem_singleton.mp hp]; exact hH (cc, PP) List.mem_cons_self, fun _ => rfl⟩, fun base _ _ hTB => ?_⟩
  let c : Cfg := ⟨C, [(PP, (("_law_case" : Str) ++ ".<locals>.") ++ "<lambda>")]⟩
  have ox : OexC K C := ⟨⟨nm, q, N, bs, _, sn, sub, ab, col, dd, m0, m1, m2, m3, m5, xL, by decide +kernel⟩, sa, eC, tC, kC⟩
  have Fi := fun_mk (st := s_init) li ci ki
  have B : Bad l.prog w K mg base c.CB := ⟨PySem.W.mg_of X G aC, ox, ⟨ga, gg, eC, hC⟩, nb, exm_self eC iC tC sC, fI, _, ai, ti, Fi.binds (ps := ["self", "name"]) (fun _ _ _ _ _ _ us hl => match us, hl with | [_, _], _ => rfl), ok_init Fi rfl rfl ox nb⟩
  have TB : LamX.TabB base mg cc PP := hTB (cc, PP) List.mem_cons_self
  have rf : RefK K mg s__law_refused := ⟨⟨a__law_refused, _, _, _, _, _, _, _, _, _, _, PySem.W.mg_of X G n__law_refused, k__law_refused, l__law_refused, c__law_refused, (fun_mk (st := s__law_refused) l__law_refused c__law_refused k__law_refused).binds (ps := ["call"]) (fun _ _ _ _ _ _ us hl => match us, hl with | [_], _ => rfl)⟩, ⟨rfl, rfl, rfl, by decide +kernel, rfl, by decide +kernel, by decide +kernel⟩, ⟨_, _, _, _, _, _, _, _, _, _, _, _, rfl⟩, rfl, rfl, Or.inl rfl⟩
  have c_MOST_TREES : ∃ t, mg "MOST_TREES" = some (.int 16 t) := ⟨t_MOST_TREES, PySem.W.mg_of X G z_MOST_TREES⟩
  have c_MOST_WORTH : ∃ t, mg "MOST_WORTH" = some (.int 999 t) := ⟨t_MOST_WORTH, PySem.W.mg_of X G z_MOST_WORTH⟩
  have c_NONE : ∃ t, mg "NONE" = some (.int (-1) t) := ⟨t_NONE, PySem.W.mg_of X G z_NONE⟩
  have f__law_alike := w__law_alike (P := l.prog) (w := w) (base := base) (c := c) bl   (funC_mk (st := s__law_alike) l__law_alike c__law_alike k__law_alike) (PySem.W.mg_of X G n__law_alike) 8 (by decide)
  have f__law_covers := w__law_covers (P := l.prog) (w := w) (base := base) (c := c) bl   (funC_mk (st := s__law_covers) l__law_covers c__law_covers k__law_covers) (PySem.W.mg_of X G n__law_covers)
  have f__law_taken := w__law_taken (P := l.prog) (w := w) (base := base) (c := c) bl   (funC_mk (st := s__law_taken) l__law_taken c__law_taken k__law_taken) (PySem.W.mg_of X G n__law_taken)
  have f__law_pick := w__law_pick (P := l.prog) (w := w) (base := base) (c := c) bl f__law_taken  (funC_mk (st := s__law_pick) l__law_pick c__law_pick k__law_pick) (PySem.W.mg_of X G n__law_pick)
  have f__law_sets := w__law_sets (P := l.prog) (w := w) (base := base) (c := c) bl   (funC_mk (st := s__law_sets) l__law_sets c__law_sets k__law_sets) (PySem.W.mg_of X G n__law_sets)
  have f__law_stand := w__law_stand (P := l.prog) (w := w) (base := base) (c := c) bl f__law_pick f__law_taken  (funC_mk (st := s__law_stand) l__law_stand c__law_stand k__law_stand) (PySem.W.mg_of X G n__law_stand)
  have f__law_sum := w__law_sum (P := l.prog) (w := w) (base := base) (c := c) bl   (funC_mk (st := s__law_sum) l__law_sum c__law_sum k__law_sum) (PySem.W.mg_of X G n__law_sum)
  have f_sums_of := w_sums_of (P := l.prog) (w := w) (base := base) (c := c) bl   (funC_mk (st := s_sums_of) l_sums_of c_sums_of k_sums_of) (PySem.W.mg_of X G n_sums_of)
  have f_best_of := w_best_of (P := l.prog) (w := w) (base := base) (c := c) bl f_sums_of  (funC_mk (st := s_best_of) l_best_of c_best_of k_best_of) (PySem.W.mg_of X G n_best_of)
  have f_is_row := w_is_row (P := l.prog) (w := w) (base := base) (c := c) bl   (funC_mk (st := s_is_row) l_is_row c_is_row k_is_row) (PySem.W.mg_of X G n_is_row)
  have f_is_whole := w_is_whole (P := l.prog) (w := w) (base := base) (c := c) bl   (funC_mk (st := s_is_whole) l_is_whole c_is_whole k_is_whole) (PySem.W.mg_of X G n_is_whole)
  have f_is_stand := w_is_stand (P := l.prog) (w := w) (base := base) (c := c) bl f_is_row f_is_whole c_MOST_TREES c_MOST_WORTH c_NONE (funC_mk (st := s_is_stand) l_is_stand c_is_stand k_is_stand) (PySem.W.mg_of X G n_is_stand)
  have f_require := w_require (P := l.prog) (w := w) (base := base) (c := c) bl   B (funC_mk (st := s_require) l_require c_require k_require) (PySem.W.mg_of X G n_require)
  have f_always := w_always (P := l.prog) (w := w) (base := base) (c := c) bl f_best_of f_is_stand f_require  (funC_mk (st := s_always) l_always c_always k_always) (PySem.W.mg_of X G n_always)
  have f_are_wholes := w_are_wholes (P := l.prog) (w := w) (base := base) (c := c) bl f_is_row f_is_whole  (funC_mk (st := s_are_wholes) l_are_wholes c_are_wholes k_are_wholes) (PySem.W.mg_of X G n_are_wholes)
  have f_are_trees := w_are_trees (P := l.prog) (w := w) (base := base) (c := c) bl f_are_wholes f_is_row f_is_stand f_require  (funC_mk (st := s_are_trees) l_are_trees c_are_trees k_are_trees) (PySem.W.mg_of X G n_are_trees)
  have f_cover := w_cover (P := l.prog) (w := w) (base := base) (c := c) bl f_is_stand f_require  (funC_mk (st := s_cover) l_cover c_cover k_cover) (PySem.W.mg_of X G n_cover)
  have f_is_cover := w_is_cover (P := l.prog) (w := w) (base := base) (c := c) bl f_are_wholes f_is_stand f_require c_MOST_WORTH (funC_mk (st := s_is_cover) l_is_cover c_is_cover k_is_cover) (PySem.W.mg_of X G n_is_cover)
  have f_trees := w_trees (P := l.prog) (w := w) (base := base) (c := c) bl f_is_stand f_require f_sums_of  (funC_mk (st := s_trees) l_trees c_trees k_trees) (PySem.W.mg_of X G n_trees)
  have f_worth := w_worth (P := l.prog) (w := w) (base := base) (c := c) bl f_is_stand f_require f_sums_of  (funC_mk (st := s_worth) l_worth c_worth k_worth) (PySem.W.mg_of X G n_worth)
  have f_worth_of := w_worth_of (P := l.prog) (w := w) (base := base) (c := c) bl f_are_trees f_require  (funC_mk (st := s_worth_of) l_worth_of c_worth_of k_worth_of) (PySem.W.mg_of X G n_worth_of)
  have f__law_case := w__law_case (P := l.prog) (w := w) (base := base) (c := c) bl f__law_alike f__law_covers f__law_pick f__law_sets f__law_stand f__law_sum f__law_taken f_always f_are_trees f_cover f_is_cover f_trees f_worth f_worth_of  B rf TB rfl (funC_mk (st := s__law_case) l__law_case c__law_case k__law_case) (PySem.W.mg_of X G n__law_case)
  exact w_law (c := c) bl f__law_case  (funC_mk (st := s_law) l_law c_law k_law) hden
end K20
open PySem PySem.W PyProof.Rows
set_option maxRecDepth 100000 in
set_option maxHeartbeats 0 in
theorem PySem.Challenge.cw_logsawn_k20_whole_felled_trees_holds : PySem.Challenge.rw_logsawn_k20_whole_felled_trees.Holds := by
  w_on; o_law; k_head; (case hw => w_witness2)
  k_fill
  refine LamX.walk_ofTs (l := PySem.Challenge.rw_logsawn_k20_whole_felled_trees) (n := 63) (k := 10) (x := "script") (CX := fun w => L2.CX (PySem.Challenge.rw_logsawn_k20_whole_felled_trees).prog w) rfl (by decide) rfl ⟨rfl, by decide, by decide⟩ (fun w h Y => PySem.W.km_in_of Y) ?F ?Z
  case Z =>
    intro w H s e s' hq
    obtain ⟨_, _, _, _, _, _, _, _, _, _, _, _, z⟩ := hq
    exact z
  case F =>
    intro w mg fa h Y KX G hmg
    have hT8 := PySem.W.km_tabs_of Y
    refine' K20.all_mk KX G hmg K20.law_true ?aC ?xL ?sa ?ga ?gg ?nb ?ai ?ti ?li ?ci ?ki ?kC ?eC ?tC ?hC ?iC ?sC ?n_require ?l_require ?c_require ?k_require ?n_is_whole ?l_is_whole ?c_is_whole ?k_is_whole ?n_is_row ?l_is_row ?c_is_row ?k_is_row ?n_are_wholes ?l_are_wholes ?c_are_wholes ?k_are_wholes ?n_is_stand ?l_is_stand ?c_is_stand ?k_is_stand ?n_sums_of ?l_sums_of ?c_sums_of ?k_sums_of ?n_worth ?l_worth ?c_worth ?k_worth ?n_trees ?l_trees ?c_trees ?k_trees ?n_are_trees ?l_are_trees ?c_are_trees ?k_are_trees ?n_worth_of ?l_worth_of ?c_worth_of ?k_worth_of ?n_cover ?l_cover ?c_cover ?k_cover ?n_is_cover ?l_is_cover ?c_is_cover ?k_is_cover ?n_always ?l_always ?c_always ?k_always ?n_best_of ?l_best_of ?c_best_of ?k_best_of ?n__law_taken ?l__law_taken ?c__law_taken ?k__law_taken ?n__law_pick ?l__law_pick ?c__law_pick ?k__law_pick ?n__law_refused ?l__law_refused ?c__law_refused ?k__law_refused ?n__law_alike ?l__law_alike ?c__law_alike ?k__law_alike ?n__law_stand ?l__law_stand ?c__law_stand ?k__law_stand ?n__law_sets ?l__law_sets ?c__law_sets ?k__law_sets ?n__law_sum ?l__law_sum ?c__law_sum ?k__law_sum ?n__law_covers ?l__law_covers ?c__law_covers ?k__law_covers ?n__law_case ?l__law_case ?c__law_case ?k__law_case ?n_law ?l_law ?c_law ?k_law ?z_MOST_TREES ?z_MOST_WORTH ?z_NONE ?b_len ?b_int ?b_abs ?b_max ?b_min ?b_sum ?b_all ?b_any ?b_tuple ?b_list ?b_isinstance ?b_bool ?b_range ?b_sorted ?b_zip ?b_enumerate ?b_str ?b_set ?b_dict ?tb ?nT ?cH
    (case aC => k_is)
    (case xL => k_is)
    (case sa => k_is)
    (case ga => k_is)
    (case gg => k_is)
    (case nb => k_is)
    (case ai => k_is)
    (case ti => k_is)
    (case li => k_is)
    (case ci => k_is)
    (case ki => k_is)
    (case kC => k_is)
    (case eC => k_is)
    (case tC => k_is)
    (case hC => k_is)
    (case iC => k_is)
    (case sC => first | rfl | k_is)
    (case n_require => k_is)
    (case l_require => k_is)
    (case c_require => k_is)
    (case k_require => k_is)
    (case n_is_whole => k_is)
    (case l_is_whole => k_is)
    (case c_is_whole => k_is)
    (case k_is_whole => k_is)
    (case n_is_row => k_is)
    (case l_is_row => k_is)
    (case c_is_row => k_is)
    (case k_is_row => k_is)
    (case n_are_wholes => k_is)
    (case l_are_wholes => k_is)
    (case c_are_wholes => k_is)
    (case k_are_wholes => k_is)
    (case n_is_stand => k_is)
    (case l_is_stand => k_is)
    (case c_is_stand => k_is)
    (case k_is_stand => k_is)
    (case n_sums_of => k_is)
    (case l_sums_of => k_is)
    (case c_sums_of => k_is)
    (case k_sums_of => k_is)
    (case n_worth => k_is)
    (case l_worth => k_is)
    (case c_worth => k_is)
    (case k_worth => k_is)
    (case n_trees => k_is)
    (case l_trees => k_is)
    (case c_trees => k_is)
    (case k_trees => k_is)
    (case n_are_trees => k_is)
    (case l_are_trees => k_is)
    (case c_are_trees => k_is)
    (case k_are_trees => k_is)
    (case n_worth_of => k_is)
    (case l_worth_of => k_is)
    (case c_worth_of => k_is)
    (case k_worth_of => k_is)
    (case n_cover => k_is)
    (case l_cover => k_is)
    (case c_cover => k_is)
    (case k_cover => k_is)
    (case n_is_cover => k_is)
    (case l_is_cover => k_is)
    (case c_is_cover => k_is)
    (case k_is_cover => k_is)
    (case n_always => k_is)
    (case l_always => k_is)
    (case c_always => k_is)
    (case k_always => k_is)
    (case n_best_of => k_is)
    (case l_best_of => k_is)
    (case c_best_of => k_is)
    (case k_best_of => k_is)
    (case n__law_taken => k_is)
    (case l__law_taken => k_is)
    (case c__law_taken => k_is)
    (case k__law_taken => k_is)
    (case n__law_pick => k_is)
    (case l__law_pick => k_is)
    (case c__law_pick => k_is)
    (case k__law_pick => k_is)
    (case n__law_refused => k_is)
    (case l__law_refused => k_is)
    (case c__law_refused => k_is)
    (case k__law_refused => k_is)
    (case n__law_alike => k_is)
    (case l__law_alike => k_is)
    (case c__law_alike => k_is)
    (case k__law_alike => k_is)
    (case n__law_stand => k_is)
    (case l__law_stand => k_is)
    (case c__law_stand => k_is)
    (case k__law_stand => k_is)
    (case n__law_sets => k_is)
    (case l__law_sets => k_is)
    (case c__law_sets => k_is)
    (case k__law_sets => k_is)
    (case n__law_sum => k_is)
    (case l__law_sum => k_is)
    (case c__law_sum => k_is)
    (case k__law_sum => k_is)
    (case n__law_covers => k_is)
    (case l__law_covers => k_is)
    (case c__law_covers => k_is)
    (case k__law_covers => k_is)
    (case n__law_case => k_is)
    (case l__law_case => k_is)
    (case c__law_case => k_is)
    (case k__law_case => k_is)
    (case n_law => k_is)
    (case l_law => k_is)
    (case c_law => k_is)
    (case k_law => k_is)
    (case z_MOST_TREES => k_is)
    (case z_MOST_WORTH => k_is)
    (case z_NONE => k_is)
    (case b_len => k_is)
    (case b_int => k_is)
    (case b_abs => k_is)
    (case b_max => k_is)
    (case b_min => k_is)
    (case b_sum => k_is)
    (case b_all => k_is)
    (case b_any => k_is)
    (case b_tuple => k_is)
    (case b_list => k_is)
    (case b_isinstance => k_is)
    (case b_bool => k_is)
    (case b_range => k_is)
    (case b_sorted => k_is)
    (case b_zip => k_is)
    (case b_enumerate => k_is)
    (case b_str => k_is)
    (case b_set => k_is)
    (case b_dict => k_is)
    (case tb => exact hT8 _ List.mem_cons_self)
    (case nT => kernel_rfl)
    (case cH => kernel_rfl)


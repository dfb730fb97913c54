import PyProof.Rows.All
import Wide.All
import OpenK.AllK
import Wide.FinOn
import HandS.ForMost
import HandS.Lambda
import HandS.EndTab
import HandS.Exc
import HandS.ExcInit
import HandS.WordsExc
import HandS.CallSlots
import HandS.ExcField
import HandS.Zip
import HandS.RevRange
import HandS.Conv
import HandS.Flow
import HandS.Style
import HandS.TupLe
import HandS.TupAny
import HandS.TupMul
import HandS.DictTup
import HandS.WideMore
import HandS.Deep
import HandS.Strs
import HandS.SortInts
import KE.SortData
import KE.DataCmp
import KE.DataMinMax
import KE.DataAny
import KE.DataIsa
import KE.KTupSum
import HandS.Walk
import HandS.Iter
import KE.DatumOrd
import KE.KNestM
import PySem.Challenge.RW_logsawn_k25_whole_choices_of_kinds
set_option Elab.async false
set_option linter.all false
set_option maxRecDepth 100000
set_option maxHeartbeats 4000000
/-! Ev: pure data as values of the model; what stands for what -/
namespace Ev
open PySem PySem.Spec PyProof.Rows L2

/-- the mark of the law's row, the one thing that is handed on by reference -/
def rowD : PyData := .dict [(.none, .none)]
def keyD : Key → PyData
  | .inl i => .int i
  | .inr x => .str x
def keyT (k : List Key) : PyData := .tuple (k.map keyD)

def notTbl (o : HO) : Prop := ∀ ps, o ≠ .tbl ps
def hide (H : Hp) (S : List Addr) : Hp := fun a => if a ∈ S then none else H a
def Sub (H H' : Hp) : Prop := ∀ b o, H b = some o → notTbl o → H' b = some o
theorem Sub.refl (H : Hp) : Sub H H := fun _ _ h _ => h
theorem Sub.trans {H H1 H2 : Hp} (a : Sub H H1) (b : Sub H1 H2) : Sub H H2 := fun x o h n => b x o (a x o h n) n
theorem hide_in {H : Hp} {S : List Addr} {a : Addr} (h : a ∈ S) : hide H S a = none := if_pos h
theorem hide_out {H : Hp} {S : List Addr} {a : Addr} (h : a ∉ S) : hide H S a = H a := if_neg h
theorem of_hide {H : Hp} {S : List Addr} {a : Addr} {o : HO} (h : hide H S a = some o) : a ∉ S ∧ H a = some o := by
  by_cases c : a ∈ S
  · rw [hide_in c] at h; cases h
  · rw [hide_out c] at h; exact ⟨c, h⟩
theorem hide_sub {H : Hp} {S : List Addr} : Sub (hide H S) H := fun b o h _ => (of_hide h).2
theorem hide_more {H : Hp} {S S' : List Addr} (h : ∀ b ∈ S', b ∈ S) : Sub (hide H S) (hide H S') := fun b o e _ => by
  obtain ⟨n, e⟩ := of_hide e
  rw [hide_out fun z => n (h b z)]
  exact e
theorem nt_lst {xs : List V} : notTbl (.lst xs) := fun _ z => by cases z
theorem nt_tup {xs : List V} : notTbl (.tup xs) := fun _ z => by cases z
theorem nt_dK {xs : List (Key × V)} : notTbl (.dK xs) := fun _ z => by cases z
theorem nt_dT {xs : List (List Key × V)} : notTbl (.dT xs) := fun _ z => by cases z
theorem nt_frz {o : Obj} {u : HO} : notTbl (.frz o u) := fun _ z => by cases z
theorem nt_xd {fs : List (Str × V)} : notTbl (.xd fs) := fun _ z => by cases z
theorem Sub.rd {H H' : Hp} {a : Addr} {u : HO} (s : Sub H H') (n : notTbl u) (h : Rd H a u) : Rd H' a u := by
  rcases h with h | ⟨o, h⟩
  · exact .inl (s _ _ h n)
  · exact .inr ⟨o, s _ _ h nt_frz⟩
theorem Sub.sqL {K : PySem.W.Frag} {H H' : Hp} {a : Addr} {xs : List V} (s : Sub H H') (h : SqL K H a xs) : SqL K H' a xs := by
  rcases h with h | h
  · exact .inl (s.rd nt_lst h)
  · exact .inr h
theorem Sub.sqT {K : PySem.W.Frag} {H H' : Hp} {a : Addr} {xs : List V} (s : Sub H H') (h : SqT K H a xs) : SqT K H' a xs := by
  rcases h with h | h
  · exact .inl (s.rd nt_tup h)
  · exact .inr h

mutual
/-- the value v over the heap H is the datum -/
inductive Rep (K : PySem.W.Frag) (a0 : Addr) (H : Hp) : V → PyData → Prop
  | non : Rep K a0 H .non .none
  | bl (b : Bool) : Rep K a0 H (.bl b) (.bool b)
  | int (i : Int) : Rep K a0 H (.int i) (.int i)
  | str (x : Str) : Rep K a0 H (.str x) (.str x)
  | lst {a : Addr} {xs : List V} {ds : List PyData} : H a = some (.lst xs) → RepA K a0 H xs ds → Rep K a0 H (.ref a) (.list ds)
  | tup {a : Addr} {xs : List V} {ds : List PyData} : H a = some (.tup xs) → RepA K a0 H xs ds → Rep K a0 H (.ref a) (.tuple ds)
  | dK {a : Addr} {kvs : List (Key × V)} {ps : List (PyData × PyData)} : Rd H a (.dK kvs) → RepK K a0 H kvs ps → Rep K a0 H (.ref a) (.dict ps)
  | dT {a : Addr} {kvs : List (List Key × V)} {ps : List (PyData × PyData)} : Rd H a (.dT kvs) → RepT K a0 H kvs ps → Rep K a0 H (.ref a) (.dict ps)
  | row : Rep K a0 H (.ref a0) rowD
inductive RepA (K : PySem.W.Frag) (a0 : Addr) (H : Hp) : List V → List PyData → Prop
  | nil : RepA K a0 H [] []
  | cons {v : V} {vs : List V} {d : PyData} {ds : List PyData} : Rep K a0 H v d → RepA K a0 H vs ds → RepA K a0 H (v :: vs) (d :: ds)
inductive RepK (K : PySem.W.Frag) (a0 : Addr) (H : Hp) : List (Key × V) → List (PyData × PyData) → Prop
  | nil : RepK K a0 H [] []
  | cons {k : Key} {v : V} {vs : List (Key × V)} {d : PyData} {ds : List (PyData × PyData)} : Rep K a0 H v d → RepK K a0 H vs ds → RepK K a0 H ((k, v) :: vs) ((keyD k, d) :: ds)
inductive RepT (K : PySem.W.Frag) (a0 : Addr) (H : Hp) : List (List Key × V) → List (PyData × PyData) → Prop
  | nil : RepT K a0 H [] []
  | cons {k : List Key} {v : V} {vs : List (List Key × V)} {d : PyData} {ds : List (PyData × PyData)} : Rep K a0 H v d → RepT K a0 H vs ds → RepT K a0 H ((k, v) :: vs) ((keyT k, d) :: ds)
end

section
variable {K : PySem.W.Frag} {a0 : Addr} {H H' : Hp}
mutual
theorem Rep.mono (s : Sub H H') {v : V} {d : PyData} (r : Rep K a0 H v d) : Rep K a0 H' v d := by
  cases r with
  | non => exact .non
  | bl b => exact .bl b
  | int i => exact .int i
  | str x => exact .str x
  | lst h r => exact .lst (s _ _ h nt_lst) (RepA.mono s r)
  | tup h r => exact .tup (s _ _ h nt_tup) (RepA.mono s r)
  | dK h r => exact .dK (s.rd nt_dK h) (RepK.mono s r)
  | dT h r => exact .dT (s.rd nt_dT h) (RepT.mono s r)
  | row => exact .row
theorem RepA.mono (s : Sub H H') {v : List V} {d : List PyData} (r : RepA K a0 H v d) : RepA K a0 H' v d := by
  cases r with
  | nil => exact .nil
  | cons h r => exact .cons (Rep.mono s h) (RepA.mono s r)
theorem RepK.mono (s : Sub H H') {v : List (Key × V)} {d : List (PyData × PyData)} (r : RepK K a0 H v d) : RepK K a0 H' v d := by
  cases r with
  | nil => exact .nil
  | cons h r => exact .cons (Rep.mono s h) (RepK.mono s r)
theorem RepT.mono (s : Sub H H') {v : List (List Key × V)} {d : List (PyData × PyData)} (r : RepT K a0 H v d) : RepT K a0 H' v d := by
  cases r with
  | nil => exact .nil
  | cons h r => exact .cons (Rep.mono s h) (RepT.mono s r)
end
theorem RepA.length : ∀ {v : List V} {d : List PyData}, RepA K a0 H v d → v.length = d.length
  | _, _, .nil => rfl
  | _, _, .cons _ r => by rw [List.length_cons, List.length_cons, RepA.length r]
theorem RepA.append : ∀ {v v' : List V} {d d' : List PyData}, RepA K a0 H v d → RepA K a0 H v' d' → RepA K a0 H (v ++ v') (d ++ d')
  | _, _, _, _, .nil, s => s
  | _, _, _, _, .cons h r, s => .cons h (RepA.append r s)
theorem RepA.get : ∀ {v : List V} {d : List PyData} {i : Nat} {x : PyData}, RepA K a0 H v d → d[i]? = some x → ∃ u, v[i]? = some u ∧ Rep K a0 H u x
  | _, _, _, _, .nil, e => by simp at e
  | _, _, 0, _, .cons h _, e => by
    simp at e
    subst e
    exact ⟨_, rfl, h⟩
  | _, _, i + 1, _, .cons _ r, e => by
    obtain ⟨u, e1, e2⟩ := RepA.get (i := i) r (by simpa using e)
    exact ⟨u, by simpa using e1, e2⟩
theorem RepA.getV : ∀ {v : List V} {d : List PyData} {i : Nat} {u : V}, RepA K a0 H v d → v[i]? = some u → ∃ x, d[i]? = some x ∧ Rep K a0 H u x
  | _, _, _, _, .nil, e => by simp at e
  | _, _, 0, _, .cons h _, e => by
    simp at e
    subst e
    exact ⟨_, rfl, h⟩
  | _, _, i + 1, _, .cons _ r, e => by
    obtain ⟨u, e1, e2⟩ := RepA.getV (i := i) r (by simpa using e)
    exact ⟨u, by simpa using e1, e2⟩
theorem RepA.take : ∀ {v : List V} {d : List PyData} (n : Nat), RepA K a0 H v d → RepA K a0 H (v.take n) (d.take n)
  | _, _, 0, _ => .nil
  | _, _, _ + 1, .nil => .nil
  | _, _, n + 1, .cons h r => .cons h (RepA.take n r)
theorem RepA.drop : ∀ {v : List V} {d : List PyData} (n : Nat), RepA K a0 H v d → RepA K a0 H (v.drop n) (d.drop n)
  | _, _, 0, r => r
  | _, _, _ + 1, .nil => .nil
  | _, _, n + 1, .cons h r => RepA.drop n r
theorem RepA.set {u : V} {x : PyData} (h : Rep K a0 H u x) : ∀ {v : List V} {d : List PyData} (n : Nat), RepA K a0 H v d → RepA K a0 H (v.set n u) (d.set n x)
  | _, _, _, .nil => .nil
  | _, _, 0, .cons _ r => .cons h r
  | _, _, n + 1, .cons h' r => .cons h' (RepA.set h n r)
theorem RepA.eraseIdx : ∀ {v : List V} {d : List PyData} (n : Nat), RepA K a0 H v d → RepA K a0 H (v.eraseIdx n) (d.eraseIdx n)
  | _, _, _, .nil => .nil
  | _, _, 0, .cons _ r => r
  | _, _, n + 1, .cons h' r => .cons h' (RepA.eraseIdx n r)
theorem RepA.dropLast : ∀ {v : List V} {d : List PyData}, RepA K a0 H v d → RepA K a0 H v.dropLast d.dropLast
  | _, _, .nil => .nil
  | _, _, .cons h .nil => .nil
  | _, _, .cons h (.cons h' r) => .cons h (RepA.dropLast (.cons h' r))
theorem RepA.flat : ∀ (n : Nat) {v : List V} {d : List PyData}, RepA K a0 H v d → RepA K a0 H (List.replicate n v).flatten (List.replicate n d).flatten
  | 0, _, _, _ => .nil
  | n + 1, _, _, r => by
    rw [List.replicate_succ, List.replicate_succ, List.flatten_cons, List.flatten_cons]
    exact RepA.append r (RepA.flat n r)
theorem RepA.ints : ∀ (ns : List Int), RepA K a0 H (ns.map V.int) (ns.map PyData.int)
  | [] => .nil
  | n :: r => .cons (.int n) (RepA.ints r)
theorem RepA.atI {v : List V} {d : List PyData} {i : Int} {x : PyData} (r : RepA K a0 H v d) (h : atI d i = some x) : ∃ u, L2.atI v i = some u ∧ Rep K a0 H u x := by
  unfold L2.atI at h ⊢
  rw [r.length]
  cases e : ixN d.length i with
  | none => rw [e] at h; cases h
  | some j =>
    rw [e] at h
    exact r.get h
end

/-! ### what stands for a datum -/
section
variable {K : PySem.W.Frag} {a0 : Addr} {H : Hp} {v : V}
theorem Rep.int_inv {i : Int} (r : Rep K a0 H v (.int i)) : v = .int i := by cases r; rfl
theorem Rep.bool_inv {b : Bool} (r : Rep K a0 H v (.bool b)) : v = .bl b := by cases r; rfl
theorem Rep.str_inv {x : Str} (r : Rep K a0 H v (.str x)) : v = .str x := by cases r; rfl
theorem Rep.none_inv (r : Rep K a0 H v .none) : v = .non := by cases r; rfl
theorem Rep.list_inv {ds : List PyData} (r : Rep K a0 H v (.list ds)) : ∃ a xs, v = .ref a ∧ H a = some (.lst xs) ∧ RepA K a0 H xs ds := by
  cases r with
  | lst h r => exact ⟨_, _, rfl, h, r⟩
theorem Rep.tup_inv {ds : List PyData} (r : Rep K a0 H v (.tuple ds)) : ∃ a xs, v = .ref a ∧ H a = some (.tup xs) ∧ RepA K a0 H xs ds := by
  cases r with
  | tup h r => exact ⟨_, _, rfl, h, r⟩
theorem Rep.dict_inv {ps : List (PyData × PyData)} (r : Rep K a0 H v (.dict ps)) : ∃ a, v = .ref a ∧ ((∃ kvs, Rd H a (.dK kvs) ∧ RepK K a0 H kvs ps) ∨ (∃ kvs, Rd H a (.dT kvs) ∧ RepT K a0 H kvs ps) ∨ (a = a0 ∧ ps = [(.none, .none)])) := by
  generalize e : PyData.dict ps = d at r
  cases r with
  | dK h r => cases e; exact ⟨_, rfl, .inl ⟨_, h, r⟩⟩
  | dT h r => cases e; exact ⟨_, rfl, .inr (.inl ⟨_, h, r⟩)⟩
  | row => cases e; exact ⟨_, rfl, .inr (.inr ⟨rfl, rfl⟩)⟩
  | _ => cases e
end

/-! ### pure data: no list, no dict within -/
mutual
def pureD : PyData → Bool
  | .none => true
  | .bool _ => true
  | .int _ => true
  | .str _ => true
  | .tuple ds => pureA ds
  | .list _ => false
  | .dict _ => false
def pureA : List PyData → Bool
  | [] => true
  | d :: ds => pureD d && pureA ds
end
mutual
/-- data without dicts -/
def dataD : PyData → Bool
  | .none => true
  | .bool _ => true
  | .int _ => true
  | .str _ => true
  | .tuple ds => dataA ds
  | .list ds => dataA ds
  | .dict _ => false
def dataA : List PyData → Bool
  | [] => true
  | d :: ds => dataD d && dataA ds
end
section
variable {K : PySem.W.Frag} {a0 : Addr} {H : Hp}
mutual
theorem Rep.dp {v : V} {d : PyData} (r : Rep K a0 H v d) (h : dataD d = true) : Dp K H v d := by
  cases r with
  | non => exact .non
  | bl b => exact .bl b
  | int i => exact .int i
  | str x => exact .str x
  | lst e r => exact .lst (.inl (.inl e)) (RepA.dp r (by simpa [dataD] using h))
  | tup e r => exact .tup (.inl (.inl e)) (RepA.dp r (by simpa [dataD] using h))
  | dK e r => simp [dataD] at h
  | dT e r => simp [dataD] at h
  | row => simp [dataD, rowD] at h
theorem RepA.dp {v : List V} {d : List PyData} (r : RepA K a0 H v d) (h : dataA d = true) : DpAll K H v d := by
  cases r with
  | nil => exact .nil
  | cons e r =>
    simp only [dataA, Bool.and_eq_true] at h
    exact .cons (Rep.dp e h.1) (RepA.dp r h.2)
end
mutual
theorem Rep.pure {S S' : List Addr} (hS : ∀ b ∈ S', ∀ o, H b = some o → ∀ xs, o ≠ .tup xs) {v : V} {d : PyData} (r : Rep K a0 (hide H S) v d) (h : pureD d = true) : Rep K a0 (hide H (S' ++ S)) v d := by
  cases r with
  | non => exact .non
  | bl b => exact .bl b
  | int i => exact .int i
  | str x => exact .str x
  | lst e r => simp [pureD] at h
  | @tup a xs _ e r =>
    refine .tup ?_ (RepA.pure hS r (by simpa [pureD] using h))
    obtain ⟨n, e⟩ := of_hide e
    rw [hide_out ?_]
    · exact e
    · intro z
      rcases List.mem_append.mp z with z | z
      · exact hS a z _ e _ rfl
      · exact n z
  | dK e r => simp [pureD] at h
  | dT e r => simp [pureD] at h
  | row => simp [pureD, rowD] at h
theorem RepA.pure {S S' : List Addr} (hS : ∀ b ∈ S', ∀ o, H b = some o → ∀ xs, o ≠ .tup xs) {v : List V} {d : List PyData} (r : RepA K a0 (hide H S) v d) (h : pureA d = true) : RepA K a0 (hide H (S' ++ S)) v d := by
  cases r with
  | nil => exact .nil
  | cons e r =>
    simp only [pureA, Bool.and_eq_true] at h
    exact .cons (Rep.pure hS e h.1) (RepA.pure hS r h.2)
end
end

/-! ### the evaluator's answers -/
/-- the law's row: its script, its place, its mixed number, its digits -/
structure Row where
  ns : List Int
  i : Int
  m : Int
  c : Int
inductive Res (α : Type) where
  | ok (a : α) (R : Row)
  | exc (nm : Str) (R : Row)
  | stuck
def Res.bind {α β : Type} (r : Res α) (f : α → Row → Res β) : Res β := match r with
  | .ok a R => f a R
  | .exc nm R => .exc nm R
  | .stuck => .stuck
def Res.map {α β : Type} (f : α → β) (r : Res α) : Res β := r.bind fun a R => .ok (f a) R
def ofO {α : Type} (o : Option α) (R : Row) : Res α := match o with
  | some a => .ok a R
  | none => .stuck
/-- an equation that the kernel does not unfold again -/
theorem eqr {α : Sort u} {a b : α} (h : a = b) : a = b := h
@[simp] theorem bind_ok {α β : Type} (a : α) (R : Row) (f : α → Row → Res β) : (Res.ok a R).bind f = f a R := eqr rfl
@[simp] theorem bind_exc {α β : Type} (nm : Str) (R : Row) (f : α → Row → Res β) : (Res.exc nm R).bind f = .exc nm R := eqr rfl
@[simp] theorem bind_stuck {α β : Type} (f : α → Row → Res β) : (Res.stuck).bind f = .stuck := eqr rfl
@[simp] theorem map_ok {α β : Type} (f : α → β) (a : α) (R : Row) : (Res.ok a R).map f = .ok (f a) R := eqr rfl
@[simp] theorem ofO_some {α : Type} (a : α) (R : Row) : ofO (some a) R = .ok a R := eqr rfl
def Ends {α : Type} (r : Res α) (ok : α → Row → Prop) (ex : Str → Row → Prop) : Prop := match r with
  | .ok a R => ok a R
  | .exc nm R => ex nm R
  | .stuck => False
theorem Ends.mono {α : Type} {r : Res α} {ok ok' : α → Row → Prop} {ex ex' : Str → Row → Prop} (h : Ends r ok ex) (h1 : ∀ a R, ok a R → ok' a R) (h2 : ∀ n R, ex n R → ex' n R) : Ends r ok' ex' := by
  cases r with
  | ok a R => exact h1 _ _ h
  | exc n R => exact h2 _ _ h
  | stuck => exact h
theorem Ends.bind {α β : Type} {r : Res α} {f : α → Row → Res β} {ok : β → Row → Prop} {ex : Str → Row → Prop} (h : Ends (r.bind f) ok ex) : Ends r (fun a R => Ends (f a R) ok ex) ex := by
  cases r with
  | ok a R => exact h
  | exc n R => exact h
  | stuck => exact h
theorem Ends.ofO {α : Type} {o : Option α} {R : Row} {ok : α → Row → Prop} {ex : Str → Row → Prop} (h : Ends (ofO o R) ok ex) : ∃ a, o = some a ∧ ok a R := by
  cases o with
  | none => exact h.elim
  | some a => exact ⟨a, rfl, h⟩

abbrev Env := List (Option PyData)
abbrev Den := Env → Row → Res PyData
abbrev DenL := Env → Row → Res (List PyData)
abbrev DenB := Env → Row → Res Bool

/-! ### the world at a point of the walk -/
structure Cfg where
  CB : Addr
  T : List (Addr × Str)
/-- a list that stands still -/
def SqF (K : PySem.W.Frag) (H : Hp) (a : Addr) (xs : List V) : Prop :=
  (∃ o, H a = some (.frz o (.lst xs))) ∨
    ∃ (o : Obj) (its : Array Value) (n : Nat), K.lookup a = some o ∧ o.cls = .type "list" ∧ o.dict = none ∧ o.data = .seq its n ∧ its.size ≤ sizeLine ∧ Vals xs its.toList
structure Wd (K : PySem.W.Frag) (c : Cfg) (a0 : Addr) (S : List Addr) (H0 H : Hp) (R : Row) : Prop where
  a0S : a0 ∈ S
  sS : ∀ b ∈ S, ∃ o, H0 b = some o ∧ notTbl o
  gr : ∀ b o, b ≠ a0 → H0 b = some o → notTbl o → H b = some o
  row : ∃ sc, H a0 = some (.lst [.ref sc, .int R.i, .int R.m, .int R.c]) ∧ SqF K H sc (R.ns.map V.int)
  tabs : LamX.Tabs c.T H
section
variable {K : PySem.W.Frag} {c : Cfg} {a0 : Addr} {S : List Addr} {H0 H H1 : Hp} {R R1 : Row}
theorem Wd.here (w : Wd K c a0 S H0 H R) : Wd K c a0 S H H R where
  a0S := w.a0S
  sS := fun b hb => by
    by_cases e : b = a0
    · subst e
      obtain ⟨sc, h, _⟩ := w.row
      exact ⟨_, h, nt_lst⟩
    · obtain ⟨o, h, n⟩ := w.sS b hb
      exact ⟨o, w.gr b o e h n, n⟩
  gr := fun _ _ _ h _ => h
  row := w.row
  tabs := w.tabs
theorem Wd.trans (w : Wd K c a0 S H0 H R) (w1 : Wd K c a0 S H H1 R1) : Wd K c a0 S H0 H1 R1 where
  a0S := w.a0S
  sS := w.sS
  gr := fun b o e h n => w1.gr b o e (w.gr b o e h n) n
  row := w1.row
  tabs := w1.tabs
theorem Wd.sub (w : Wd K c a0 S H H1 R) : Sub (hide H S) (hide H1 S) := fun b o h n => by
  obtain ⟨nb, h⟩ := of_hide h
  rw [hide_out nb]
  exact w.gr b o (fun z => nb (z ▸ w.a0S)) h n
theorem SqF.sqL {a : Addr} {xs : List V} (h : SqF K H a xs) : SqL K H a xs := by
  rcases h with ⟨o, h⟩ | h
  · exact .inl (.inr ⟨o, h⟩)
  · exact .inr h
theorem SqF.mono {a : Addr} {xs : List V} (s : ∀ o u, H a = some (.frz o u) → H1 a = some (.frz o u)) (h : SqF K H a xs) : SqF K H1 a xs := by
  rcases h with ⟨o, h⟩ | h
  · exact .inl ⟨o, s _ _ h⟩
  · exact .inr h
/-- a new object is laid -/
theorem Wd.new (w : Wd K c a0 S H H R) {p : Addr} {o : HO} (hp : H p = none) : Wd K c a0 S H (upd H p o) R where
  a0S := w.a0S
  sS := w.sS
  gr := fun b u _ h _ => by
    rw [upd_ne (ne_of_none h hp)]
    exact h
  row := by
    obtain ⟨sc, h, f⟩ := w.row
    refine ⟨sc, ?_, f.mono fun o u e => ?_⟩
    · rw [upd_ne (ne_of_none h hp)]
      exact h
    · rw [upd_ne (ne_of_none e hp)]
      exact e
  tabs := w.tabs.ext fun b u h => by
    rw [upd_ne (ne_of_none h hp)]
    exact h
theorem Wd.notS (w : Wd K c a0 S H H R) {p : Addr} (hp : H p = none) : p ∉ S := fun z => by
  obtain ⟨o, h, _⟩ := w.sS p z
  rw [hp] at h
  cases h
theorem hide_upd_out {p : Addr} {o : HO} (hp : p ∉ S) : hide (upd H p o) S p = some o := by
  rw [hide_out hp, upd_same]
end
theorem Wd.fr {K : PySem.W.Frag} {c : Cfg} {a0 : Addr} {S : List Addr} {H H1 : Hp} {R : Row} (w : Wd K c a0 S H H1 R) {p : Addr} (hp : H1 p = none) : ∀ o, H p = some o → ¬ notTbl o := fun o e n => by
  by_cases ea : p = a0
  · obtain ⟨sc, h1, _⟩ := w.row
    rw [ea, h1] at hp
    cases hp
  · rw [w.gr p o ea e n] at hp
    cases hp
/-- the slots hold the environment -/
def EnvR (K : PySem.W.Frag) (a0 : Addr) (H : Hp) (ρ : Env) (σ : L2.St) : Prop := ρ.length = σ.length ∧ ∀ (i : Nat) (d : PyData), ρ[i]? = some (some d) → ∃ v, σ[i]? = some (some v) ∧ Rep K a0 H v d
theorem EnvR.mono {K : PySem.W.Frag} {a0 : Addr} {H H' : Hp} {ρ : Env} {σ : L2.St} (e : EnvR K a0 H ρ σ) (s : Sub H H') : EnvR K a0 H' ρ σ := ⟨e.1, fun i d h => by
  obtain ⟨v, h1, h2⟩ := e.2 i d h
  exact ⟨v, h1, h2.mono s⟩⟩

/-! ### readings by data -/
section
variable (K : PySem.W.Frag) (c : Cfg) (E : XK)
def Ex (a0 : Addr) (S : List Addr) (H : Hp) (nm : Str) (R' : Row) : Prop :=
  ∀ dx H', Wd K c a0 S H H' R' → H' dx = some (.xd [("name", .str nm)]) → E (.ref c.CB) (some dx) H'
def tD (den : Den) : TE := fun σ H Q => ∃ a0 S ρ R, Wd K c a0 S H H R ∧ EnvR K a0 (hide H S) ρ σ ∧
  Ends (den ρ R) (fun d R' => ∀ v H', Wd K c a0 S H H' R' → Rep K a0 (hide H' S) v d → Q v H') (Ex K c E a0 S H)
def tDL (den : DenL) : TA := fun σ H Q => ∃ a0 S ρ R, Wd K c a0 S H H R ∧ EnvR K a0 (hide H S) ρ σ ∧
  Ends (den ρ R) (fun ds R' => ∀ vs H', Wd K c a0 S H H' R' → RepA K a0 (hide H' S) vs ds → Q vs H') (Ex K c E a0 S H)
def tDB (den : DenB) : TT := fun σ H Q => ∃ a0 S ρ R, Wd K c a0 S H H R ∧ EnvR K a0 (hide H S) ρ σ ∧
  Ends (den ρ R) (fun b R' => ∀ H', Wd K c a0 S H H' R' → Q b H') (Ex K c E a0 S H)
/-- no object that stays -/
def Fr (H : Hp) (p : Addr) : Prop := ∀ o, H p = some o → ¬ notTbl o
/-- a new list: its address is new -/
def tDN (den : DenL) : TE := fun σ H Q => ∃ a0 S ρ R, Wd K c a0 S H H R ∧ EnvR K a0 (hide H S) ρ σ ∧
  Ends (den ρ R) (fun ds R' => ∀ p vs H', Fr H p → Wd K c a0 S H H' R' → H' p = some (.lst vs) → RepA K a0 (hide H' (p :: S)) vs ds → Q (.ref p) H') (Ex K c E a0 S H)
end
def DE (X : Cx) (c : Cfg) (E : XK) (e : Expr) (den : Den) : Prop := PE X e (tD X.K c E den)
def DEs (X : Cx) (c : Cfg) (E : XK) (es : List Expr) (den : DenL) : Prop := PA X es (tDL X.K c E den)
def DT (X : Cx) (c : Cfg) (E : XK) (e : Expr) (den : DenB) : Prop := PT X e (tDB X.K c E den)
def DN (X : Cx) (c : Cfg) (E : XK) (e : Expr) (den : DenL) : Prop := PE X e (tDN X.K c E den)

theorem PE.imp {X : Cx} {e : Expr} {t t' : TE} (h : PE X e t) (m : ∀ σ H Q, t' σ H Q → t σ H Q) : PE X e t' := ⟨fun pins s σ H Q I q => h.run pins s σ H Q I (m σ H Q q)⟩
theorem PA.imp {X : Cx} {e : List Expr} {t t' : TA} (h : PA X e t) (m : ∀ σ H Q, t' σ H Q → t σ H Q) : PA X e t' := ⟨fun pos pins s σ H Q I q => h.run pos pins s σ H Q I (m σ H Q q)⟩
theorem PT.imp {X : Cx} {e : Expr} {t t' : TT} (h : PT X e t) (m : ∀ σ H Q, t' σ H Q → t σ H Q) : PT X e t' := ⟨fun pins s σ H Q I q => h.run pins s σ H Q I (m σ H Q q)⟩
theorem PS.imp {X : Cx} {e : Stmt} {t t' : TS} (h : PS X e t) (m : ∀ D σ H, t' D σ H → t D σ H) : PS X e t' := ⟨fun pins s σ H D I q => h.run pins s σ H D I (m D σ H q)⟩
theorem PSs.imp {X : Cx} {e : List Stmt} {t t' : TS} (h : PSs X e t) (m : ∀ D σ H, t' D σ H → t D σ H) : PSs X e t' := ⟨fun pins s σ H D I q => h.run pins s σ H D I (m D σ H q)⟩
theorem PE.or {X : Cx} {e : Expr} {t t' : TE} (h : PE X e t) (h' : PE X e t') : PE X e (fun σ H Q => t σ H Q ∨ t' σ H Q) := ⟨fun pins s σ H Q I q => q.elim (h.run pins s σ H Q I) (h'.run pins s σ H Q I)⟩

section
variable {K : PySem.W.Frag} {c : Cfg} {E : XK} {a0 : Addr} {S : List Addr} {H H1 : Hp} {R R1 : Row} {nm : Str}
theorem Ex.back (w : Wd K c a0 S H H1 R) (e : Ex K c E a0 S H nm R1) : Ex K c E a0 S H1 nm R1 := fun dx H' w' h => e dx H' (w.trans w') h
end
end Ev

/-! Ev: operations on pure data -/
namespace Ev
open PySem PySem.Spec PyProof.Rows L2

/-! ### shapes -/
def shp : Nat → PyData → Bool
  | 0, _ => false
  | n + 1, d => match d with
    | .none => true
    | .bool _ => true
    | .int _ => true
    | .str x => PyData.strOk x
    | .list xs => xs.all (shp n)
    | .tuple xs => xs.all (shp n)
    | .dict _ => false
theorem depthAll_le {n : Nat} : ∀ {xs : List PyData}, (∀ x ∈ xs, x.depth ≤ n) → PyData.depthAll xs ≤ n
  | [], _ => by simp [PyData.depthAll]
  | x :: xs, h => by
    have h1 := h x List.mem_cons_self
    have h2 := depthAll_le (xs := xs) fun y hy => h y (List.mem_cons_of_mem _ hy)
    simp only [PyData.depthAll]
    omega
theorem canAll : ∀ {xs : List PyData}, (∀ x ∈ xs, x.canLay0 = true) → PyData.canLayAll0 xs = true
  | [], _ => by simp [PyData.canLayAll0]
  | x :: xs, h => by
    have h1 := h x List.mem_cons_self
    have h2 := canAll (xs := xs) fun y hy => h y (List.mem_cons_of_mem _ hy)
    simp [PyData.canLayAll0, h1, h2]
theorem dataAll : ∀ {xs : List PyData}, (∀ x ∈ xs, dataD x = true) → dataA xs = true
  | [], _ => rfl
  | x :: xs, h => by
    have h1 := h x List.mem_cons_self
    have h2 := dataAll (xs := xs) fun y hy => h y (List.mem_cons_of_mem _ hy)
    simp [dataA, h1, h2]
theorem shp_facts : ∀ (n : Nat) (d : PyData), shp n d = true → d.canLay0 = true ∧ d.depth ≤ n ∧ dataD d = true
  | 0, _, h => by simp [shp] at h
  | n + 1, d, h => by
    cases d with
    | none => simp [PyData.canLay0, PyData.depth, dataD]
    | bool b => simp [PyData.canLay0, PyData.depth, dataD]
    | int i => simp [PyData.canLay0, PyData.depth, dataD]
    | str x =>
      have h' : PyData.strOk x = true := h
      simp [PyData.canLay0, PyData.depth, dataD, h']
    | list xs =>
      have h' : xs.all (shp n) = true := h
      rw [List.all_eq_true] at h'
      have f := fun x hx => shp_facts n x (h' x hx)
      refine ⟨?_, ?_, ?_⟩
      · simp only [PyData.canLay0]
        exact canAll fun x hx => (f x hx).1
      · have := depthAll_le fun x hx => (f x hx).2.1
        simp only [PyData.depth]
        omega
      · simp only [dataD]
        exact dataAll fun x hx => (f x hx).2.2
    | tuple xs =>
      have h' : xs.all (shp n) = true := h
      rw [List.all_eq_true] at h'
      have f := fun x hx => shp_facts n x (h' x hx)
      refine ⟨?_, ?_, ?_⟩
      · simp only [PyData.canLay0]
        exact canAll fun x hx => (f x hx).1
      · have := depthAll_le fun x hx => (f x hx).2.1
        simp only [PyData.depth]
        omega
      · simp only [dataD]
        exact dataAll fun x hx => (f x hx).2.2
    | dict _ => simp [shp] at h
theorem shp_shaped {n : Nat} {d : PyData} (h : shp n d = true) (hn : n ≤ 64) : SeqAt.shaped d = true := by
  obtain ⟨h1, h2, _⟩ := shp_facts n d h
  unfold SeqAt.shaped
  rw [h1, Bool.true_and]
  exact decide_eq_true (Nat.le_trans h2 hn)
theorem shp_data {n : Nat} {d : PyData} (h : shp n d = true) : dataD d = true := (shp_facts n d h).2.2
@[simp] theorem shp_int (n : Nat) (i : Int) : shp (n + 1) (.int i) = true := rfl
@[simp] theorem shp_bool (n : Nat) (i : Bool) : shp (n + 1) (.bool i) = true := rfl
@[simp] theorem shp_none (n : Nat) : shp (n + 1) .none = true := rfl
@[simp] theorem shp_list (n : Nat) (xs : List PyData) : shp (n + 1) (.list xs) = xs.all (shp n) := rfl
@[simp] theorem shp_tup (n : Nat) (xs : List PyData) : shp (n + 1) (.tuple xs) = xs.all (shp n) := rfl
@[simp] theorem shp_str (n : Nat) (x : Str) : shp (n + 1) (.str x) = PyData.strOk x := rfl

/-! ### kinds of data that can be compared -/
inductive Ty where
  | int | bool | str
  | tup (ts : List Ty)
  | seq (t : Ty)
  | lsq (t : Ty)
mutual
def hasTy : Ty → PyData → Bool
  | .int, .int _ => true
  | .bool, .bool _ => true
  | .str, .str x => PyData.strOk x
  | .tup ts, .tuple xs => hasTys ts xs
  | .seq t, .tuple xs => xs.all (hasTy t)
  | .lsq t, .list xs => xs.all (hasTy t)
  | _, _ => false
def hasTys : List Ty → List PyData → Bool
  | [], [] => true
  | t :: ts, x :: xs => hasTy t x && hasTys ts xs
  | _, _ => false
end
theorem alikeAll_of {p : PyData → Bool} (h : ∀ x y, p x = true → p y = true → PySem.W.alike x y = true) : ∀ (xs ys : List PyData), xs.all p = true → ys.all p = true → PySem.W.alikeAll xs ys = true
  | [], _, _, _ => by simp [PySem.W.alikeAll]
  | _ :: _, [], _, _ => by simp [PySem.W.alikeAll]
  | x :: xs, y :: ys, hx, hy => by
    rw [List.all_cons, Bool.and_eq_true] at hx hy
    simp [PySem.W.alikeAll, h x y hx.1 hy.1, alikeAll_of h xs ys hx.2 hy.2]
mutual
theorem hasTy_alike : ∀ (t : Ty) (x y : PyData), hasTy t x = true → hasTy t y = true → PySem.W.alike x y = true
  | .int, x, y, hx, hy => by cases x <;> simp [hasTy] at hx <;> cases y <;> simp [hasTy] at hy <;> rfl
  | .bool, x, y, hx, hy => by cases x <;> simp [hasTy] at hx <;> cases y <;> simp [hasTy] at hy <;> rfl
  | .str, x, y, hx, hy => by cases x <;> simp [hasTy] at hx <;> cases y <;> simp [hasTy] at hy <;> rfl
  | .tup ts, x, y, hx, hy => by
    cases x <;> simp only [hasTy, Bool.false_eq_true] at hx
    cases y <;> simp only [hasTy, Bool.false_eq_true] at hy
    simp only [PySem.W.alike]
    exact hasTys_alike ts _ _ hx hy
  | .seq t, x, y, hx, hy => by
    cases x <;> simp only [hasTy, Bool.false_eq_true] at hx
    cases y <;> simp only [hasTy, Bool.false_eq_true] at hy
    simp only [PySem.W.alike]
    exact alikeAll_of (fun a b => hasTy_alike t a b) _ _ hx hy
  | .lsq t, x, y, hx, hy => by
    cases x <;> simp only [hasTy, Bool.false_eq_true] at hx
    cases y <;> simp only [hasTy, Bool.false_eq_true] at hy
    simp only [PySem.W.alike]
    exact alikeAll_of (fun a b => hasTy_alike t a b) _ _ hx hy
theorem hasTys_alike : ∀ (ts : List Ty) (xs ys : List PyData), hasTys ts xs = true → hasTys ts ys = true → PySem.W.alikeAll xs ys = true
  | [], xs, ys, hx, hy => by
    cases xs <;> simp [hasTys] at hx
    cases ys <;> simp [hasTys] at hy
    rfl
  | t :: ts, xs, ys, hx, hy => by
    cases xs <;> simp only [hasTys, Bool.false_eq_true, Bool.and_eq_true] at hx
    cases ys <;> simp only [hasTys, Bool.false_eq_true, Bool.and_eq_true] at hy
    simp [PySem.W.alikeAll, hasTy_alike t _ _ hx.1 hy.1, hasTys_alike ts _ _ hx.2 hy.2]
end
theorem hasTy_nn {t : Ty} {x : PyData} (h : hasTy t x = true) : x ≠ .none := by
  intro e
  subst e
  cases t <;> simp [hasTy] at h

/-! ### what the operators give -/
def addD : PyData → PyData → Option PyData
  | .int a, .int b => some (.int (a + b))
  | .list xs, .list ys => if xs.length + ys.length ≤ sizeLine then some (.list (xs ++ ys)) else none
  | .tuple xs, .tuple ys => if xs.length + ys.length ≤ sizeLine then some (.tuple (xs ++ ys)) else none
  | .str x, .str y => if x.length + y.length ≤ sizeLine then some (.str (x ++ y)) else none
  | _, _ => none
def subD : PyData → PyData → Option PyData
  | .int a, .int b => some (.int (a - b))
  | _, _ => none
/-- a bound that is seen at once -/
def near (i : Int) : Bool := decide (-(2 ^ 64) < i) && decide (i < 2 ^ 64)
def mulD : PyData → PyData → Option PyData
  | .int a, .int b => if near a || near b then some (.int (a * b)) else none
  | .list xs, .int k => if -(2 ^ 63) ≤ k ∧ k < 2 ^ 63 ∧ xs.length * k.toNat ≤ sizeLine then some (.list (List.replicate k.toNat xs).flatten) else none
  | .tuple xs, .int k => if xs ≠ [] ∧ 1 ≤ k ∧ k ≤ 1000 ∧ xs.length ≤ 1000 then some (.tuple (List.replicate k.toNat xs).flatten) else none
  | _, _ => none
def fdivD : PyData → PyData → Option PyData
  | .int a, .int b => if 0 < b ∧ b < 1073741824 then some (.int (a / b)) else none
  | _, _ => none
def modD : PyData → PyData → Option PyData
  | .int a, .int b => if 0 < b then some (.int (a % b)) else none
  | _, _ => none
def powD : PyData → PyData → Option PyData
  | .int a, .int b => if 0 ≤ b ∧ b ≤ 1000000 ∧ a.natAbs < 2 ^ 64 then some (.int (a ^ b.toNat)) else none
  | _, _ => none
def shlD : PyData → PyData → Option PyData
  | .int a, .int b => if 0 ≤ b ∧ b ≤ 1000000 ∧ a.natAbs < 2 ^ 64 then some (.int (a * 2 ^ b.toNat)) else none
  | _, _ => none
def shrD : PyData → PyData → Option PyData
  | .int a, .int b => if 0 ≤ b then some (.int (a / 2 ^ b.toNat)) else none
  | _, _ => none
def andD : PyData → PyData → Option PyData
  | .int a, .int b => some (.int (Builtin.bitAnd a b))
  | _, _ => none
def orD : PyData → PyData → Option PyData
  | .int a, .int b => some (.int (Builtin.bitOr a b))
  | _, _ => none
def xorD : PyData → PyData → Option PyData
  | .int a, .int b => some (.int (Builtin.bitXor a b))
  | _, _ => none
def cmpD (f : Int → Int → Bool) : PyData → PyData → Option PyData
  | .int a, .int b => some (.bool (f a b))
  | _, _ => none
def eqD (d e : PyData) : Option PyData := if shp 9 d && shp 9 e then some (.bool (PyData.eqv d e)) else none
def neD (d e : PyData) : Option PyData := if shp 9 d && shp 9 e then some (.bool (!PyData.eqv d e)) else none
/-- a < b of data of one kind -/
def ltTy (t : Ty) (d e : PyData) : Option PyData := if hasTy t d && hasTy t e && shp 9 d && shp 9 e then some (.bool (PySem.W.dataLt d e)) else none
def leTy (t : Ty) (d e : PyData) : Option PyData := if hasTy t d && hasTy t e && shp 9 d && shp 9 e then some (.bool (!PySem.W.dataLt e d)) else none
def isD : PyData → PyData → Option PyData
  | .bool a, .bool b => some (.bool (decide (a = b)))
  | .none, .none => some (.bool true)
  | x, .none => some (.bool (match x with | .none => true | _ => false))
  | _, _ => none

end Ev

/-! Ev: a tuple once -/
namespace L2
open PySem PySem.Spec PyProof.Rows
theorem tuple_mul1 (l : Addr) (items : Array Value) (n : Nat) (dd : Option Addr) (sl : Array (Option Value)) (u : Tok) :
    Meets (Builtin.«tuple.__mul__» ⟨[.ref l, .int 1 u], []⟩) (fun _ R s => s.heap.get? l = some { cls := .type "tuple", dict := dd, data := .seq items n, slots := sl } ∧
      R (.ok (.ret (Value.ref l))) s) :=
  .of_wp fun prog w A R s h => by
    obtain ⟨hp, g, d, tk, os⟩ := s
    obtain ⟨hl, h⟩ := h
    have f1 := AutoSeq1.idx_int
    wp_walk using wpAny_loadPart' hl
    exact ⟨_, rfl, h⟩
def rRepT1 (K : PySem.W.Frag) : R2 := fun x y H Q => ∃ l xs, x = .ref l ∧ y = .int 1 ∧ SqT K H l xs ∧ Q (.ref l) H
theorem op_repT1 {X : Cx} : OpR X (binaryOp .Mult) (rRepT1 X.K) := by
  intro pins s σ H x y v u Q I rx ry h
  obtain ⟨l, xs, rfl, rfl, hT, q⟩ := h
  cases rx
  obtain ⟨t, rfl⟩ := ry
  obtain ⟨its, r, ⟨⟨cls, dd, data, sl⟩, ho, hc, n, hd⟩, hs⟩ := I.tuple hT
  simp only at hc hd
  subst hc hd
  refine wpAny_binaryOp_repeat_ref (T := "tuple") (U := "int") (by decide) ⟨_, ho, rfl⟩ (fun s' => typeIs_int s' 1 t) noFill_tuple_mul F.fills_int_mul F.slot_int_rmul repeat_tuple F.slot_int_index.lookup
    (call_meets F.slot_int_rmul (typeIs_int s 1 t) F.entry_int_rmul (F.args_int_rmul_2 _ _) (int_rmul_tuple 1 t l its.toArray n dd sl)
      ⟨ho, rfl, ⟨_, ho, rfl⟩, call_meets F.slot_tuple_mul ⟨_, ho, rfl⟩ F.entry_tuple_mul (F.args_tuple_mul_2 _ _) (tuple_mul1 l its.toArray n dd sl t) ⟨ho, ?_⟩⟩)
  exact ⟨.ref l, _, I, rfl, q⟩
end L2

/-! Ev: the operators' rules by data -/
namespace Ev
open PySem PySem.Spec PyProof.Rows L2

def rD (K : PySem.W.Frag) (c : Cfg) (f : PyData → PyData → Option PyData) : R2 := fun x y H Q => ∃ a0 S R dx dy d, Wd K c a0 S H H R ∧ Rep K a0 (hide H S) x dx ∧ Rep K a0 (hide H S) y dy ∧ f dx dy = some d ∧
  ∀ v H', Wd K c a0 S H H' R → Rep K a0 (hide H' S) v d → Q v H'
def OpD (X : Cx) (c : Cfg) (op : Operator) (f : PyData → PyData → Option PyData) : Prop := OpR X (binaryOp op) (rD X.K c f)
def CmD (X : Cx) (c : Cfg) (op : CmpOp) (f : PyData → PyData → Option PyData) : Prop := OpR X (compareOp op) (rD X.K c f)

section
variable {K : PySem.W.Frag} {c : Cfg} {a0 : Addr} {S : List Addr} {H H' : Hp} {R : Row}
theorem new_rep {p : Addr} {xs : List V} {ds : List PyData} (w : Wd K c a0 S H H R) (hp : H p = none) (r : RepA K a0 (hide H S) xs ds) : Rep K a0 (hide (upd H p (.lst xs)) S) (.ref p) (.list ds) := by
  have w1 := w.new (o := .lst xs) hp
  exact .lst (hide_upd_out (w.notS hp)) (r.mono w1.sub)
theorem new_repT {p : Addr} {xs : List V} {ds : List PyData} (w : Wd K c a0 S H H R) (hp : H p = none) (r : RepA K a0 (hide H S) xs ds) : Rep K a0 (hide (upd H p (.tup xs)) S) (.ref p) (.tuple ds) := by
  have w1 := w.new (o := .tup xs) hp
  exact .tup (hide_upd_out (w.notS hp)) (r.mono w1.sub)
/-- the strong form: the new object itself is hidden -/
theorem new_sub {p : Addr} {o : HO} (w : Wd K c a0 S H H R) (hp : H p = none) : Sub (hide H S) (hide (upd H p o) (p :: S)) := fun b u h n => by
  obtain ⟨nb, h⟩ := of_hide h
  have e : b ≠ p := ne_of_none h hp
  rw [hide_out (by simp [e, nb]), upd_ne e]
  exact h
end

section
variable {X : Cx} {c : Cfg}
theorem opD_add : OpD X c .Add addD := by
  rintro pins s σ H x y v u Q I rx ry ⟨a0, S, R, dx, dy, d, w, r1, r2, e, k⟩
  unfold addD at e
  split at e
  · cases e
    have := r1.int_inv; have := r2.int_inv; subst x; subst y
    exact op_add pins s σ H _ _ v u Q I rx ry ⟨_, _, rfl, rfl, k _ _ w (.int _)⟩
  · split at e
    · rename_i hl
      cases e
      obtain ⟨a, vs, rfl, q1, q2⟩ := r1.list_inv
      obtain ⟨b, us, rfl, p1, p2⟩ := r2.list_inv
      exact op_cat pins s σ H _ _ v u Q I rx ry ⟨a, b, vs, us, rfl, rfl, (of_hide q1).2, (of_hide p1).2, by rw [q2.length, p2.length]; exact hl, fun p hp => k _ _ (w.new hp) (new_rep w hp (q2.append p2))⟩
    · cases e
  · split at e
    · rename_i hl
      cases e
      obtain ⟨a, vs, rfl, q1, q2⟩ := r1.tup_inv
      obtain ⟨b, us, rfl, p1, p2⟩ := r2.tup_inv
      refine op_catA pins s σ H _ _ v u Q I rx ry ⟨a, b, vs, us, rfl, rfl, (.inl (.inl (of_hide q1).2)), (.inl (.inl (of_hide p1).2)), by rw [q2.length, p2.length]; exact hl, fun z => ?_, fun _ z => ?_, fun _ _ p hp => ?_⟩
      · subst z
        cases q2
        exact k _ _ w (.tup p1 p2)
      · subst z
        cases p2
        rw [List.append_nil] at k
        exact k _ _ w (.tup q1 q2)
      · exact k _ _ (w.new hp) (new_repT w hp (q2.append p2))
    · cases e
  · split at e
    · cases e
      have := r1.str_inv; have := r2.str_inv; subst x; subst y
      exact op_add_str pins s σ H _ _ v u Q I rx ry ⟨_, _, rfl, rfl, by assumption, k _ _ w (.str _)⟩
    · cases e
  · cases e
theorem opD_sub : OpD X c .Sub subD := by
  rintro pins s σ H x y v u Q I rx ry ⟨a0, S, R, dx, dy, d, w, r1, r2, e, k⟩
  unfold subD at e
  split at e
  · cases e
    have := r1.int_inv; have := r2.int_inv; subst x; subst y
    exact op_sub pins s σ H _ _ v u Q I rx ry ⟨_, _, rfl, rfl, k _ _ w (.int _)⟩
  · cases e
theorem near_iff {i : Int} : near i = true ↔ -(2 ^ 64) < i ∧ i < 2 ^ 64 := by
  unfold near
  rw [Bool.and_eq_true, decide_eq_true_eq, decide_eq_true_eq]
theorem opD_mul : OpD X c .Mult mulD := by
  rintro pins s σ H x y v u Q I rx ry ⟨a0, S, R, dx, dy, d, w, r1, r2, e, k⟩
  unfold mulD at e
  split at e
  · split at e
    · rename_i hn
      cases e
      have := r1.int_inv; have := r2.int_inv; subst x; subst y
      rw [Bool.or_eq_true, near_iff, near_iff] at hn
      exact op_mul pins s σ H _ _ v u Q I rx ry ⟨_, _, rfl, rfl, hn, k _ _ w (.int _)⟩
    · cases e
  · split at e
    · rename_i hl
      cases e
      obtain ⟨a, vs, rfl, q1, q2⟩ := r1.list_inv
      have := r2.int_inv; subst y
      refine op_rep pins s σ H _ _ v u Q I rx ry ⟨a, _, vs, rfl, rfl, (of_hide q1).2, hl.1, hl.2.1, by rw [q2.length]; exact hl.2.2, fun p hp => k _ _ (w.new hp) (new_rep w hp (q2.flat _))⟩
    · cases e
  · split at e
    · rename_i hl
      cases e
      obtain ⟨a, vs, rfl, q1, q2⟩ := r1.tup_inv
      have := r2.int_inv; subst y
      rename_i j
      by_cases h1 : j = 1
      · subst h1
        refine op_repT1 pins s σ H _ _ v u Q I rx ry ⟨a, vs, rfl, rfl, (.inl (.inl (of_hide q1).2)), k _ _ w ?_⟩
        have e1 : ∀ xs : List PyData, (List.replicate (1 : Int).toNat xs).flatten = xs := fun xs => by
          show (List.replicate 1 xs).flatten = xs
          simp
        rw [e1]
        exact .tup q1 q2
      · refine op_repT pins s σ H _ _ v u Q I rx ry ⟨a, _, vs, rfl, rfl, (.inl (.inl (of_hide q1).2)), fun z => hl.1 ?_, by omega, hl.2.2.1, by rw [q2.length]; exact hl.2.2.2, fun p hp => k _ _ (w.new hp) (new_repT w hp (q2.flat _))⟩
        subst z
        cases q2
        rfl
    · cases e
  · cases e
theorem opD_fdiv : OpD X c .FloorDiv fdivD := by
  rintro pins s σ H x y v u Q I rx ry ⟨a0, S, R, dx, dy, d, w, r1, r2, e, k⟩
  unfold fdivD at e
  split at e
  · split at e
    · rename_i hn
      cases e
      have := r1.int_inv; have := r2.int_inv; subst x; subst y
      exact op_fdiv pins s σ H _ _ v u Q I rx ry ⟨_, _, rfl, rfl, hn, k _ _ w (.int _)⟩
    · cases e
  · cases e
theorem opD_mod : OpD X c .Mod modD := by
  rintro pins s σ H x y v u Q I rx ry ⟨a0, S, R, dx, dy, d, w, r1, r2, e, k⟩
  unfold modD at e
  split at e
  · split at e
    · rename_i hn
      cases e
      have := r1.int_inv; have := r2.int_inv; subst x; subst y
      exact op_mod pins s σ H _ _ v u Q I rx ry ⟨_, _, rfl, rfl, hn, k _ _ w (.int _)⟩
    · cases e
  · cases e
theorem opD_pow : OpD X c .Pow powD := by
  rintro pins s σ H x y v u Q I rx ry ⟨a0, S, R, dx, dy, d, w, r1, r2, e, k⟩
  unfold powD at e
  split at e
  · split at e
    · rename_i hn
      cases e
      have := r1.int_inv; have := r2.int_inv; subst x; subst y
      exact op_pow pins s σ H _ _ v u Q I rx ry ⟨_, _, rfl, rfl, hn, k _ _ w (.int _)⟩
    · cases e
  · cases e
theorem opD_shl : OpD X c .LShift shlD := by
  rintro pins s σ H x y v u Q I rx ry ⟨a0, S, R, dx, dy, d, w, r1, r2, e, k⟩
  unfold shlD at e
  split at e
  · split at e
    · rename_i hn
      cases e
      have := r1.int_inv; have := r2.int_inv; subst x; subst y
      exact op_shl pins s σ H _ _ v u Q I rx ry ⟨_, _, rfl, rfl, hn, k _ _ w (.int _)⟩
    · cases e
  · cases e
theorem opD_shr : OpD X c .RShift shrD := by
  rintro pins s σ H x y v u Q I rx ry ⟨a0, S, R, dx, dy, d, w, r1, r2, e, k⟩
  unfold shrD at e
  split at e
  · split at e
    · rename_i hn
      cases e
      have := r1.int_inv; have := r2.int_inv; subst x; subst y
      exact op_shr pins s σ H _ _ v u Q I rx ry ⟨_, _, rfl, rfl, hn, k _ _ w (.int _)⟩
    · cases e
  · cases e
theorem opD_and : OpD X c .BitAnd andD := by
  rintro pins s σ H x y v u Q I rx ry ⟨a0, S, R, dx, dy, d, w, r1, r2, e, k⟩
  unfold andD at e
  split at e
  · cases e
    have := r1.int_inv; have := r2.int_inv; subst x; subst y
    exact op_and pins s σ H _ _ v u Q I rx ry ⟨_, _, rfl, rfl, k _ _ w (.int _)⟩
  · cases e
theorem opD_or : OpD X c .BitOr orD := by
  rintro pins s σ H x y v u Q I rx ry ⟨a0, S, R, dx, dy, d, w, r1, r2, e, k⟩
  unfold orD at e
  split at e
  · cases e
    have := r1.int_inv; have := r2.int_inv; subst x; subst y
    exact op_or pins s σ H _ _ v u Q I rx ry ⟨_, _, rfl, rfl, k _ _ w (.int _)⟩
  · cases e
theorem opD_xor : OpD X c .BitXor xorD := by
  rintro pins s σ H x y v u Q I rx ry ⟨a0, S, R, dx, dy, d, w, r1, r2, e, k⟩
  unfold xorD at e
  split at e
  · cases e
    have := r1.int_inv; have := r2.int_inv; subst x; subst y
    exact op_xor pins s σ H _ _ v u Q I rx ry ⟨_, _, rfl, rfl, k _ _ w (.int _)⟩
  · cases e
/-! comparisons -/
theorem cmD_of {op : CmpOp} {f : Int → Int → Bool} (h : OpR X (compareOp op) (rI0 fun i j => .bl (f i j))) : CmD X c op (cmpD f) := by
  rintro pins s σ H x y v u Q I rx ry ⟨a0, S, R, dx, dy, d, w, r1, r2, e, k⟩
  unfold cmpD at e
  split at e
  · cases e
    have := r1.int_inv; have := r2.int_inv; subst x; subst y
    exact h pins s σ H _ _ v u Q I rx ry ⟨_, _, rfl, rfl, k _ _ w (.bl _)⟩
  · cases e
theorem cmD_lt : CmD X c .Lt (cmpD fun i j => decide (i < j)) := cmD_of op_lt
theorem cmD_le : CmD X c .LtE (cmpD fun i j => decide (i ≤ j)) := cmD_of op_le
theorem cmD_gt : CmD X c .Gt (cmpD fun i j => decide (j < i)) := cmD_of op_gt
theorem cmD_ge : CmD X c .GtE (cmpD fun i j => decide (j ≤ i)) := cmD_of op_ge
theorem cmD_eq (hu : X.A.units + 64 < cLine) : CmD X c .Eq eqD := by
  rintro pins s σ H x y v u Q I rx ry ⟨a0, S, R, dx, dy, d, w, r1, r2, e, k⟩
  unfold eqD at e
  split at e
  · rename_i hs
    cases e
    rw [Bool.and_eq_true] at hs
    exact op_eqD hu pins s σ H _ _ v u Q I rx ry ⟨dx, dy, (r1.mono hide_sub).dp (shp_data hs.1), (r2.mono hide_sub).dp (shp_data hs.2), shp_shaped hs.1 (by decide), shp_shaped hs.2 (by decide), k _ _ w (.bl _)⟩
  · cases e
theorem cmD_ne (hu : X.A.units + 64 < cLine) : CmD X c .NotEq neD := by
  rintro pins s σ H x y v u Q I rx ry ⟨a0, S, R, dx, dy, d, w, r1, r2, e, k⟩
  unfold neD at e
  split at e
  · rename_i hs
    cases e
    rw [Bool.and_eq_true] at hs
    exact op_neD hu pins s σ H _ _ v u Q I rx ry ⟨dx, dy, (r1.mono hide_sub).dp (shp_data hs.1), (r2.mono hide_sub).dp (shp_data hs.2), shp_shaped hs.1 (by decide), shp_shaped hs.2 (by decide), k _ _ w (.bl _)⟩
  · cases e
theorem cmD_ltT {t : Ty} (hu : X.A.units + 64 < cLine) : CmD X c .Lt (ltTy t) := by
  rintro pins s σ H x y v u Q I rx ry ⟨a0, S, R, dx, dy, d, w, r1, r2, e, k⟩
  unfold ltTy at e
  split at e
  · rename_i hs
    cases e
    simp only [Bool.and_eq_true] at hs
    obtain ⟨⟨⟨t1, t2⟩, s1⟩, s2⟩ := hs
    obtain ⟨as, e1⟩ := Dp.reads I _ _ _ ((r1.mono hide_sub).dp (shp_data s1)) rx
    obtain ⟨bs, e2⟩ := Dp.reads I _ _ _ ((r2.mono hide_sub).dp (shp_data s2)) ry
    have h1 := (shp_facts _ _ s1).2.1
    exact PySem.W.lt_data e1 e2 (hasTy_alike t _ _ t1 t2) (hasTy_nn t1) (by omega) ⟨.bl _, H, I, rfl, k _ _ w (.bl _)⟩
  · cases e
theorem cmD_gtT {t : Ty} (hu : X.A.units + 64 < cLine) : CmD X c .Gt (fun d e => ltTy t e d) := by
  rintro pins s σ H x y v u Q I rx ry ⟨a0, S, R, dx, dy, d, w, r1, r2, e, k⟩
  dsimp only at e
  unfold ltTy at e
  split at e
  · rename_i hs
    cases e
    simp only [Bool.and_eq_true] at hs
    obtain ⟨⟨⟨t2, t1⟩, s2⟩, s1⟩ := hs
    obtain ⟨as, e1⟩ := Dp.reads I _ _ _ ((r1.mono hide_sub).dp (shp_data s1)) rx
    obtain ⟨bs, e2⟩ := Dp.reads I _ _ _ ((r2.mono hide_sub).dp (shp_data s2)) ry
    have h1 := (shp_facts _ _ s1).2.1
    exact PySem.W.gt_data e1 e2 (hasTy_alike t _ _ t1 t2) (hasTy_nn t1) (by omega) ⟨.bl _, H, I, rfl, k _ _ w (.bl _)⟩
  · cases e
theorem cmD_leT {t : Ty} (hu : X.A.units + 64 < cLine) : CmD X c .LtE (leTy t) := by
  rintro pins s σ H x y v u Q I rx ry ⟨a0, S, R, dx, dy, d, w, r1, r2, e, k⟩
  unfold leTy at e
  split at e
  · rename_i hs
    cases e
    simp only [Bool.and_eq_true] at hs
    obtain ⟨⟨⟨t1, t2⟩, s1⟩, s2⟩ := hs
    obtain ⟨as, e1⟩ := Dp.reads I _ _ _ ((r1.mono hide_sub).dp (shp_data s1)) rx
    obtain ⟨bs, e2⟩ := Dp.reads I _ _ _ ((r2.mono hide_sub).dp (shp_data s2)) ry
    have h1 := (shp_facts _ _ s1).2.1
    exact PySem.W.le_data e1 e2 (hasTy_alike t _ _ t1 t2) (hasTy_nn t1) (by omega) ⟨.bl _, H, I, rfl, k _ _ w (.bl _)⟩
  · cases e
/-- x is None -/
def noneD : PyData → Bool
  | .none => true
  | _ => false
def isND : PyData → PyData → Option PyData
  | x, .none => some (.bool (noneD x))
  | _, _ => none
def notND : PyData → PyData → Option PyData
  | x, .none => some (.bool (!noneD x))
  | _, _ => none
theorem rep_non {K : PySem.W.Frag} {a0 : Addr} {H : Hp} {x : V} {d : PyData} (r : Rep K a0 H x d) : decide (x = .non) = noneD d := by
  cases r <;> rfl
theorem cmD_isN : CmD X c .Is isND := by
  rintro pins s σ H x y v u Q I rx ry ⟨a0, S, R, dx, dy, d, w, r1, r2, e, k⟩
  unfold isND at e
  split at e
  · cases e
    have := r2.none_inv; subst y
    refine op_isN pins s σ H _ _ v u Q I rx ry ⟨rfl, ?_⟩
    rw [rep_non r1]
    exact k _ _ w (.bl _)
  · cases e
theorem cmD_notN : CmD X c .IsNot notND := by
  rintro pins s σ H x y v u Q I rx ry ⟨a0, S, R, dx, dy, d, w, r1, r2, e, k⟩
  unfold notND at e
  split at e
  · cases e
    have := r2.none_inv; subst y
    refine op_notN pins s σ H _ _ v u Q I rx ry ⟨rfl, ?_⟩
    rw [rep_non r1]
    exact k _ _ w (.bl _)
  · cases e
def isBD : PyData → PyData → Option PyData
  | .bool a, .bool b => some (.bool (decide (a = b)))
  | _, _ => none
def notBD : PyData → PyData → Option PyData
  | .bool a, .bool b => some (.bool (!decide (a = b)))
  | _, _ => none
theorem cmD_isB : CmD X c .Is isBD := by
  rintro pins s σ H x y v u Q I rx ry ⟨a0, S, R, dx, dy, d, w, r1, r2, e, k⟩
  unfold isBD at e
  split at e
  · cases e
    have := r1.bool_inv; have := r2.bool_inv; subst x; subst y
    exact op_isBl pins s σ H _ _ v u Q I rx ry ⟨_, _, rfl, rfl, k _ _ w (.bl _)⟩
  · cases e
theorem cmD_notB : CmD X c .IsNot notBD := by
  rintro pins s σ H x y v u Q I rx ry ⟨a0, S, R, dx, dy, d, w, r1, r2, e, k⟩
  unfold notBD at e
  split at e
  · cases e
    have := r1.bool_inv; have := r2.bool_inv; subst x; subst y
    exact op_notBl pins s σ H _ _ v u Q I rx ry ⟨_, _, rfl, rfl, k _ _ w (.bl _)⟩
  · cases e
/-! in: a list of data, a tuple of flat data -/
def flatD : PyData → Bool
  | .none => true
  | .bool _ => true
  | .int _ => true
  | .str _ => true
  | _ => false
def eqF : PyData → PyData → Bool
  | .none, .none => true
  | .bool a, .bool b => a == b
  | .bool a, .int b => (if a then 1 else 0) == b
  | .int a, .bool b => a == (if b then 1 else 0)
  | .int a, .int b => a == b
  | .str a, .str b => a == b
  | _, _ => false
def inSq (x : PyData) : PyData → Option Bool
  | .list ds => if shp 9 x && shp 9 (.list ds) then some (ds.any fun z => PyData.eqv z x) else none
  | .tuple ds => if flatD x && ds.all flatD then some (ds.any fun z => eqF z x) else none
  | _ => none
theorem rep_flat {K : PySem.W.Frag} {a0 : Addr} {H : Hp} {x : V} {d : PyData} (r : Rep K a0 H x d) (h : flatD d = true) : flatV x = true := by
  cases r <;> first | rfl | cases h
theorem rep_flats {K : PySem.W.Frag} {a0 : Addr} {H : Hp} {x : V} {d : PyData} (r : Rep K a0 H x d) (h : flatD d = true) : ∀ {xs : List V} {ds : List PyData}, RepA K a0 H xs ds → ds.all flatD = true → xs.all flatV = true ∧ (xs.any fun y => eqV y x) = ds.any fun z => eqF z d
  | _, _, .nil, _ => ⟨rfl, rfl⟩
  | _, _, .cons q t, hs => by
    rw [List.all_cons, Bool.and_eq_true] at hs
    obtain ⟨h1, h2⟩ := rep_flats r h t hs.2
    refine ⟨?_, ?_⟩
    · rw [List.all_cons, rep_flat q hs.1, h1]
      rfl
    · rw [List.any_cons, List.any_cons, h2]
      congr 1
      cases r <;> first | (cases h; done) | (cases q <;> first | rfl | (have := hs.1; cases this; done))
theorem cmD_in (hu : X.A.units + 65 < cLine) : CmD X c .In (fun x y => (inSq x y).map PyData.bool) := by
  rintro pins s σ H x y v u Q I rx ry ⟨a0, S, R, dx, dy, d, w, r1, r2, e, k⟩
  dsimp only at e
  unfold inSq at e
  split at e
  · split at e
    · rename_i hs
      cases e
      rw [Bool.and_eq_true] at hs
      exact op_inD hu pins s σ H _ _ v u Q I rx ry ⟨dx, _, (r1.mono hide_sub).dp (shp_data hs.1), (r2.mono hide_sub).dp (shp_data hs.2), shp_shaped hs.1 (by decide), shp_shaped hs.2 (by decide), k _ _ w (.bl _)⟩
    · cases e
  · split at e
    · rename_i hs
      cases e
      rw [Bool.and_eq_true] at hs
      obtain ⟨b, us, rfl, p1, p2⟩ := r2.tup_inv
      obtain ⟨f1, f2⟩ := rep_flats r1 hs.1 p2 hs.2
      refine op_in_seq pins s σ H _ _ v u Q I rx ry ⟨b, us, rfl, .inr ((.inl (.inl (of_hide p1).2))), rep_flat r1 hs.1, f1, ?_⟩
      rw [if_neg Bool.false_ne_true]
      unfold inV
      rw [f2]
      exact k _ _ w (.bl _)
    · cases e
  · cases e
theorem cmD_notin (hu : X.A.units + 65 < cLine) : CmD X c .NotIn (fun x y => (inSq x y).map fun b => PyData.bool (!b)) := by
  rintro pins s σ H x y v u Q I rx ry ⟨a0, S, R, dx, dy, d, w, r1, r2, e, k⟩
  dsimp only at e
  unfold inSq at e
  split at e
  · split at e
    · rename_i hs
      cases e
      rw [Bool.and_eq_true] at hs
      exact op_notInD hu pins s σ H _ _ v u Q I rx ry ⟨dx, _, (r1.mono hide_sub).dp (shp_data hs.1), (r2.mono hide_sub).dp (shp_data hs.2), shp_shaped hs.1 (by decide), shp_shaped hs.2 (by decide), k _ _ w (.bl _)⟩
    · cases e
  · split at e
    · rename_i hs
      cases e
      rw [Bool.and_eq_true] at hs
      obtain ⟨b, us, rfl, p1, p2⟩ := r2.tup_inv
      obtain ⟨f1, f2⟩ := rep_flats r1 hs.1 p2 hs.2
      refine op_notIn_seq pins s σ H _ _ v u Q I rx ry ⟨b, us, rfl, .inr ((.inl (.inl (of_hide p1).2))), rep_flat r1 hs.1, f1, ?_⟩
      rw [if_pos rfl]
      unfold inV
      rw [f2]
      exact k _ _ w (.bl _)
    · cases e
  · cases e
end
end Ev

/-! Ev: expressions by data -/
namespace Ev
open PySem PySem.Spec PyProof.Rows L2
section
variable {K : PySem.W.Frag} {c : Cfg} {E : XK} {a0 : Addr} {S : List Addr} {H H1 : Hp} {R R1 : Row} {σ : L2.St} {ρ : Env} {Q : VK}
/-- a part is read; what follows may lean on the world as it is then -/
theorem tD_of {den : Den} (w : Wd K c a0 S H H R) (en : EnvR K a0 (hide H S) ρ σ)
    (p : Ends (den ρ R) (fun d R' => ∀ v H', Wd K c a0 S H H' R' → Rep K a0 (hide H' S) v d → Q v H') (Ex K c E a0 S H)) : tD K c E den σ H Q := ⟨a0, S, ρ, R, w, en, p⟩
theorem tDL_of {den : DenL} {Q : List V → Hp → Prop} (w : Wd K c a0 S H H R) (en : EnvR K a0 (hide H S) ρ σ)
    (p : Ends (den ρ R) (fun d R' => ∀ v H', Wd K c a0 S H H' R' → RepA K a0 (hide H' S) v d → Q v H') (Ex K c E a0 S H)) : tDL K c E den σ H Q := ⟨a0, S, ρ, R, w, en, p⟩
theorem tDB_of {den : DenB} {Q : Bool → Hp → Prop} (w : Wd K c a0 S H H R) (en : EnvR K a0 (hide H S) ρ σ)
    (p : Ends (den ρ R) (fun b R' => ∀ H', Wd K c a0 S H H' R' → Q b H') (Ex K c E a0 S H)) : tDB K c E den σ H Q := ⟨a0, S, ρ, R, w, en, p⟩
/-- one part, then another: the second's ends, over the heap behind the first -/
theorem ends_next {α β : Type} {r : Res α} {f : α → Row → Res β} {ok : β → Row → Prop} (p : Ends (r.bind f) ok (Ex K c E a0 S H))
    {ok' : α → Row → Prop} (h : ∀ a R1, Ends (f a R1) ok (Ex K c E a0 S H) → ok' a R1) : Ends r ok' (Ex K c E a0 S H) := (Ends.bind p).mono h fun _ _ x => x
theorem ends_back {α : Type} {r : Res α} {ok : α → Row → Prop} (w : Wd K c a0 S H H1 R) (p : Ends r ok (Ex K c E a0 S H)) {ok' : α → Row → Prop} (h : ∀ a R', ok a R' → ok' a R') : Ends r ok' (Ex K c E a0 S H1) := p.mono h fun _ _ x => x.back w
end

section
variable {X : Cx} {c : Cfg} {E : XK} {pos : Pos}
def dVar (i : Nat) : Den := fun ρ R => ofO (ρ[i]?.join) R
def dC (d : PyData) : Den := fun _ R => .ok d R
theorem join_some {ρ : Env} {i : Nat} {d : PyData} (h : ρ[i]?.join = some d) : ρ[i]? = some (some d) := by
  cases e : ρ[i]? with
  | none => rw [e] at h; cases h
  | some o => rw [e] at h; exact congrArg some h
theorem de_var (i : Nat) {x : Str} (hN : X.N[i]? = some x := by rfl) (hv : Vis X.env.scope x := by first | exact Or.inl rfl | exact Or.inr (Or.inl rfl) | exact Or.inr (Or.inr rfl)) (hd : (x == ("__debug__" : Str)) = false := by decide) (hcd : (x == ("__classdict__" : Str)) = false := by decide) :
    DE X c E (.Name x pos) (dVar i) := PE.imp (pe_var hN hv hd hcd) fun σ H Q ⟨a0, S, ρ, R, w, en, p⟩ => by
  obtain ⟨d, e, q⟩ := Ends.ofO p
  obtain ⟨v, h1, h2⟩ := en.2 i d (join_some e)
  exact ⟨v, h1, q v H w h2⟩
theorem de_int {i : Int} {j} : DE X c E (.Constant (.int i) j pos) (dC (.int i)) := PE.imp pe_int fun σ H Q ⟨a0, S, ρ, R, w, en, p⟩ => p _ _ w (.int i)
theorem de_bool {b : Bool} {j} : DE X c E (.Constant (.bool b) j pos) (dC (.bool b)) := PE.imp pe_bl fun σ H Q ⟨a0, S, ρ, R, w, en, p⟩ => p _ _ w (.bl b)
theorem de_none {j} : DE X c E (.Constant .none j pos) (dC .none) := PE.imp pe_non fun σ H Q ⟨a0, S, ρ, R, w, en, p⟩ => p _ _ w .non
theorem de_str {x : Str} {j} : DE X c E (.Constant (.str x) j pos) (dC (.str x)) := PE.imp pe_str fun σ H Q ⟨a0, S, ρ, R, w, en, p⟩ => p _ _ w (.str x)
/-- a module's constant, an int -/
theorem de_glob {x : Str} {i : Int} (hm : ∃ t, X.mg x = some (.int i t)) (hg : Gl X x := by rfl) (hd : (x == ("__debug__" : Str)) = false := by decide) : DE X c E (.Name x pos) (dC (.int i)) := by
  obtain ⟨t, hm⟩ := hm
  exact PE.imp (pe_glob hg hm (show RelV (.int i) (.int i t) from ⟨t, rfl⟩) hd) fun σ H Q ⟨a0, S, ρ, R, w, en, p⟩ => p _ _ w (.int i)

/-! two parts and an operator -/
def dBin (f : PyData → PyData → Option PyData) (da db : Den) : Den := fun ρ R => (da ρ R).bind fun x R1 => (db ρ R1).bind fun y R2 => ofO (f x y) R2
theorem two {K : PySem.W.Frag} {f : PyData → PyData → Option PyData} {da db : Den} {σ : L2.St} {H : Hp} {Q : VK} (h : tD K c E (dBin f da db) σ H Q) : tOp (rD K c f) (tD K c E da) (tD K c E db) σ H Q := by
  obtain ⟨a0, S, ρ, R, w, en, p⟩ := h
  refine tD_of w en (ends_next p fun x R1 p v H1 w1 r1 => ?_)
  refine tD_of w1.here (en.mono w1.sub) (ends_back w1 (ends_next p fun y R2 p => p) fun y R2 p u H2 w2 r2 => ?_)
  obtain ⟨d, e, q⟩ := Ends.ofO p
  exact ⟨a0, S, R2, x, y, d, w2.here, r1.mono w2.sub, r2, e, fun z H3 w3 r3 => q z H3 ((w1.trans w2).trans w3) r3⟩
theorem de_bin {a b : Expr} {op : Operator} {f : PyData → PyData → Option PyData} {da db : Den} (ho : OpD X c op f) (ha : DE X c E a da) (hb : DE X c E b db) : DE X c E (.BinOp a op b pos) (dBin f da db) :=
  PE.imp (pe_op ho ha hb) fun _ _ _ => two
/-- a comparison, as a part of an expression or a test -/
def DC (X : Cx) (c : Cfg) (E : XK) (op : CmpOp) (a b : Expr) (den : Den) : Prop := PC X op a b (tD X.K c E den)
theorem PC.imp {op : CmpOp} {a b : Expr} {t t' : TE} (h : PC X op a b t) (m : ∀ σ H Q, t' σ H Q → t σ H Q) : PC X op a b t' := ⟨fun pins s σ H Q I q => h.run pins s σ H Q I (m σ H Q q)⟩
theorem PC.or {op : CmpOp} {a b : Expr} {t t' : TE} (h : PC X op a b t) (h' : PC X op a b t') : PC X op a b (fun σ H Q => t σ H Q ∨ t' σ H Q) := ⟨fun pins s σ H Q I q => q.elim (h.run pins s σ H Q I) (h'.run pins s σ H Q I)⟩
theorem pc_of {op : CmpOp} {r : R2} {a b : Expr} {ta tb : TE} (ho : OpR X (compareOp op) r) (ha : PE X a ta) (hb : PE X b tb) : PC X op a b (tOp r ta tb) :=
  ⟨fun pins s σ H Q I h => bin ha hb I h fun v u s2 x y H2 I2 rx ry q => ho pins s2 σ H2 x y v u Q I2 rx ry q⟩
theorem dc_cm {a b : Expr} {op : CmpOp} {f : PyData → PyData → Option PyData} {da db : Den} (ho : CmD X c op f) (ha : DE X c E a da) (hb : DE X c E b db) : DC X c E op a b (dBin f da db) :=
  PC.imp (pc_of ho ha hb) fun _ _ _ => two
theorem de_cmp {a b : Expr} {op : CmpOp} {den : Den} (h : DC X c E op a b den) (h1 : behindInMarks op b = false := by first | exact nobehind _ (by decide) (by decide) | rfl) : DE X c E (.Compare a [op] [b] pos) den := pe_cmp h h1
/-- what a test makes of a value -/
def boolD : PyData → Option Bool
  | .bool b => some b
  | _ => none
def dTB (d : Den) : DenB := fun ρ R => (d ρ R).bind fun x R1 => ofO (boolD x) R1
theorem tB_of {K : PySem.W.Frag} {d : Den} {σ : L2.St} {H : Hp} {Q : Bool → Hp → Prop} (h : tDB K c E (dTB d) σ H Q) : tB (tD K c E d) σ H Q := by
  obtain ⟨a0, S, ρ, R, w, en, p⟩ := h
  refine tD_of w en (ends_next p fun x R1 p v H1 w1 r1 => ?_)
  obtain ⟨b, e, q⟩ := Ends.ofO p
  cases x <;> simp only [boolD, reduceCtorEq, Option.some.injEq] at e
  subst e
  exact ⟨_, r1.bool_inv, q H1 w1⟩
theorem dt_cmp {a b : Expr} {op : CmpOp} {den : Den} (h : DC X c E op a b den) (h1 : behindInMarks op b = false := by first | exact nobehind _ (by decide) (by decide) | rfl) : DT X c E (.Compare a [op] [b] pos) (dTB den) :=
  PT.imp (pt_cmp h h1) fun _ _ _ => tB_of
theorem dt_val {a : Expr} {den : Den} (h : DE X c E a den) (he : ∀ whole, isTrue a X.env whole = (do let v ← whole; standAt a.pos; holding [v] (truthy v)) := by intro _; rfl) : DT X c E a (dTB den) :=
  PT.imp (pt_val h he) fun _ _ _ => tB_of
/-- a chain of two -/
def dChain (f g : PyData → PyData → Option PyData) (da db dc : Den) : Den := fun ρ R => (da ρ R).bind fun x R1 => (db ρ R1).bind fun y R2 => (ofO ((f x y).bind boolD) R2).bind fun b R3 =>
  if b then (dc ρ R3).bind fun z R4 => ofO (g y z) R4 else .ok (.bool false) R3
theorem chain_of {K : PySem.W.Frag} {f g : PyData → PyData → Option PyData} {da db dc : Den} {σ : L2.St} {H : Hp} {Q : VK} (h : tD K c E (dChain f g da db dc) σ H Q) : tChain (rD K c f) (rD K c g) (tD K c E da) (tD K c E db) (tD K c E dc) σ H Q := by
  obtain ⟨a0, S, ρ, R, w, en, p⟩ := h
  refine tD_of w en (ends_next p fun x R1 p v H1 w1 r1 => ?_)
  refine tD_of w1.here (en.mono w1.sub) (ends_back w1 (ends_next p fun y R2 p => p) fun y R2 p u H2 w2 r2 => ?_)
  obtain ⟨b, e, q⟩ := Ends.ofO (Ends.bind p)
  obtain ⟨d, e1, e2⟩ := Option.bind_eq_some_iff.mp e
  cases d <;> simp only [boolD, reduceCtorEq, Option.some.injEq] at e2
  subst e2
  refine ⟨a0, S, R2, x, y, _, w2.here, r1.mono w2.sub, r2, e1, fun z H3 w3 r3 => ?_⟩
  rename_i bb
  have w13 := (w1.trans w2).trans w3
  refine ⟨bb, r3.bool_inv, ?_⟩
  cases bb with
  | true =>
    refine tD_of w3.here ((en.mono w1.sub).mono (w2.trans w3).sub) (ends_back w13 (ends_next q fun z R3 p => p) fun z R3 p u3 H4 w4 r4 => ?_)
    obtain ⟨d, e, q⟩ := Ends.ofO p
    exact ⟨a0, S, R3, y, z, d, w4.here, (r2.mono w3.sub).mono w4.sub, r4, e, fun z H5 w5 r5 => q z H5 ((w13.trans w4).trans w5) r5⟩
  | false => exact q _ _ w13 (.bl false)
theorem de_chain {a b d : Expr} {op op' : CmpOp} {f g : PyData → PyData → Option PyData} {da db dc : Den} (ho : CmD X c op f) (ho' : CmD X c op' g) (ha : DE X c E a da) (hb : DE X c E b db) (hc : DE X c E d dc) (hm : lastMarks [op, op'] [b, d] = false := by with_unfolding_all rfl) :
    DE X c E (.Compare a [op, op'] [b, d] pos) (dChain f g da db dc) := PE.imp (pe_chain ho ho' ha hb hc hm) fun _ _ _ => chain_of
theorem tTest_of {K : PySem.W.Frag} {d : Den} {σ : L2.St} {H : Hp} {Q : Bool → Hp → Prop} {t : TE} (ht : ∀ Q, tD K c E d σ H Q → t σ H Q) (h : tDB K c E (dTB d) σ H Q) : tTest t σ H Q := by
  obtain ⟨a0, S, ρ, R, w, en, p⟩ := h
  refine ht _ (tD_of w en (ends_next p fun x R1 p v H1 w1 r1 => ?_))
  obtain ⟨b, e, q⟩ := Ends.ofO p
  cases x <;> simp only [boolD, reduceCtorEq, Option.some.injEq] at e
  subst e
  exact ⟨_, r1.bool_inv, q H1 w1⟩
theorem dt_chain {a b d : Expr} {op op' : CmpOp} {f g : PyData → PyData → Option PyData} {da db dc : Den} (ho : CmD X c op f) (ho' : CmD X c op' g) (ha : DE X c E a da) (hb : DE X c E b db) (hc : DE X c E d dc) (hm : lastMarks [op, op'] [b, d] = false := by with_unfolding_all rfl) :
    DT X c E (.Compare a [op, op'] [b, d] pos) (dTB (dChain f g da db dc)) := PT.imp (pt_chain ho ho' ha hb hc hm) fun _ _ _ => tTest_of fun _ => chain_of

/-! and, or, not -/
def dAnd (da db : Den) : Den := fun ρ R => (da ρ R).bind fun x R1 => (ofO (boolD x) R1).bind fun b R2 => if b then db ρ R2 else .ok (.bool false) R2
def dOr (da db : Den) : Den := fun ρ R => (da ρ R).bind fun x R1 => (ofO (boolD x) R1).bind fun b R2 => if b then .ok (.bool true) R2 else db ρ R2
def dNot (da : Den) : Den := fun ρ R => (da ρ R).bind fun x R1 => (ofO (boolD x) R1).bind fun b R2 => .ok (.bool !b) R2
theorem bool_data {K : PySem.W.Frag} {a0 : Addr} {H : Hp} {v : V} {x : PyData} {b : Bool} (e : boolD x = some b) (r : Rep K a0 H v x) : v = .bl b := by
  cases x <;> simp only [boolD, reduceCtorEq, Option.some.injEq] at e
  subst e
  exact r.bool_inv
theorem de_one {op} {a : Expr} {den : Den} (h : DE X c E a den) : DE X c E (.BoolOp op [a] pos) den := pe_one h
theorem de_and {a b : Expr} {rest : List Expr} {da db : Den} (ha : DE X c E a da) (hb : DE X c E (.BoolOp .And (b :: rest) pos) db) : DE X c E (.BoolOp .And (a :: b :: rest) pos) (dAnd da db) :=
  PE.imp (pe_and ha hb) fun σ H Q ⟨a0, S, ρ, R, w, en, p⟩ => tD_of w en (ends_next p fun x R1 p v H1 w1 r1 => by
    obtain ⟨b, e, q⟩ := Ends.ofO (Ends.bind p)
    refine ⟨b, bool_data e r1, ?_⟩
    cases b with
    | true => exact tD_of w1.here (en.mono w1.sub) (ends_back w1 q fun y R2 p u H2 w2 r2 => p u H2 (w1.trans w2) r2)
    | false => exact q _ _ w1 (.bl false))
theorem de_or {a b : Expr} {rest : List Expr} {da db : Den} (ha : DE X c E a da) (hb : DE X c E (.BoolOp .Or (b :: rest) pos) db) : DE X c E (.BoolOp .Or (a :: b :: rest) pos) (dOr da db) :=
  PE.imp (pe_or ha hb) fun σ H Q ⟨a0, S, ρ, R, w, en, p⟩ => tD_of w en (ends_next p fun x R1 p v H1 w1 r1 => by
    obtain ⟨b, e, q⟩ := Ends.ofO (Ends.bind p)
    refine ⟨b, bool_data e r1, ?_⟩
    cases b with
    | false => exact tD_of w1.here (en.mono w1.sub) (ends_back w1 q fun y R2 p u H2 w2 r2 => p u H2 (w1.trans w2) r2)
    | true => exact q _ _ w1 (.bl true))
theorem de_not {a : Expr} {da : Den} (ha : DE X c E a da) : DE X c E (.UnaryOp .Not a pos) (dNot da) :=
  PE.imp (pe_not ha) fun σ H Q ⟨a0, S, ρ, R, w, en, p⟩ => tD_of w en (ends_next p fun x R1 p v H1 w1 r1 => by
    obtain ⟨b, e, q⟩ := Ends.ofO (Ends.bind p)
    exact ⟨b, bool_data e r1, q _ _ w1 (.bl _)⟩)
/-! .. as tests -/
def bAnd (da db : DenB) : DenB := fun ρ R => (da ρ R).bind fun b R2 => if b then db ρ R2 else .ok false R2
def bOr (da db : DenB) : DenB := fun ρ R => (da ρ R).bind fun b R2 => if b then .ok true R2 else db ρ R2
def bNot (da : DenB) : DenB := fun ρ R => (da ρ R).bind fun b R2 => .ok (!b) R2
def DW (X : Cx) (c : Cfg) (E : XK) (e : Expr) (den : DenB) : Prop := PW X e (tDB X.K c E den)
theorem PW.imp {e : Expr} {t t' : TT} (h : PW X e t) (m : ∀ σ H Q, t' σ H Q → t σ H Q) : PW X e t' := ⟨fun wh pins s σ H Q I q => h.run wh pins s σ H Q I (m σ H Q q)⟩
theorem DW.dt {e : Expr} {den : DenB} (h : DW X c E e den) : DT X c E e den := PW.pt h
theorem dw_and1 {a : Expr} {da : DenB} (ha : DT X c E a da) : DW X c E (.BoolOp .And [a] pos) da := pw_and1 ha
theorem dw_or1 {a : Expr} {da : DenB} (ha : DT X c E a da) : DW X c E (.BoolOp .Or [a] pos) da := pw_or1 ha
theorem dw_and {a b : Expr} {rest : List Expr} {da db : DenB} (ha : DT X c E a da) (hb : DW X c E (.BoolOp .And (b :: rest) pos) db) : DW X c E (.BoolOp .And (a :: b :: rest) pos) (bAnd da db) :=
  PW.imp (pw_and ha hb) fun σ H Q ⟨a0, S, ρ, R, w, en, p⟩ => tDB_of w en (ends_next p fun b R1 q H1 w1 => by
    cases b with
    | true => exact tDB_of w1.here (en.mono w1.sub) (ends_back w1 q fun y R2 p H2 w2 => p H2 (w1.trans w2))
    | false => exact q _ w1)
theorem dw_or {a b : Expr} {rest : List Expr} {da db : DenB} (ha : DT X c E a da) (hb : DW X c E (.BoolOp .Or (b :: rest) pos) db) : DW X c E (.BoolOp .Or (a :: b :: rest) pos) (bOr da db) :=
  PW.imp (pw_or ha hb) fun σ H Q ⟨a0, S, ρ, R, w, en, p⟩ => tDB_of w en (ends_next p fun b R1 q H1 w1 => by
    cases b with
    | false => exact tDB_of w1.here (en.mono w1.sub) (ends_back w1 q fun y R2 p H2 w2 => p H2 (w1.trans w2))
    | true => exact q _ w1)
theorem dt_not {a : Expr} {da : DenB} (ha : DT X c E a da) : DT X c E (.UnaryOp .Not a pos) (bNot da) :=
  PT.imp (pt_not ha) fun σ H Q ⟨a0, S, ρ, R, w, en, p⟩ => tDB_of w en (ends_next p fun b R1 q H1 w1 => q _ w1)
/-! a if t else b -/
def dIf (t : DenB) (da db : Den) : Den := fun ρ R => (t ρ R).bind fun b R1 => if b then da ρ R1 else db ρ R1
theorem de_if {t a b : Expr} {dt : DenB} {da db : Den} (ht : DT X c E t dt) (ha : DE X c E a da) (hb : DE X c E b db) : DE X c E (.IfExp t a b pos) (dIf dt da db) :=
  PE.imp (pe_ifExp ht ha hb) fun σ H Q ⟨a0, S, ρ, R, w, en, p⟩ => tDB_of w en (ends_next p fun b R1 q H1 w1 => by
    cases b with
    | true => exact tD_of w1.here (en.mono w1.sub) (ends_back w1 q fun y R2 p u H2 w2 r2 => p u H2 (w1.trans w2) r2)
    | false => exact tD_of w1.here (en.mono w1.sub) (ends_back w1 q fun y R2 p u H2 w2 r2 => p u H2 (w1.trans w2) r2))

/-! minus -/
def negD : PyData → Option PyData
  | .int a => some (.int (-a))
  | _ => none
def dUn (f : PyData → Option PyData) (da : Den) : Den := fun ρ R => (da ρ R).bind fun x R1 => ofO (f x) R1
theorem de_neg {a : Expr} {da : Den} (ha : DE X c E a da) : DE X c E (.UnaryOp .USub a pos) (dUn negD da) :=
  PE.imp (pe_un un_neg ha) fun σ H Q ⟨a0, S, ρ, R, w, en, p⟩ => tD_of w en (ends_next p fun x R1 p v H1 w1 r1 => by
    obtain ⟨d, e, q⟩ := Ends.ofO p
    cases x <;> simp only [negD, reduceCtorEq, Option.some.injEq] at e
    subst e
    exact ⟨_, r1.int_inv, q _ _ w1 (.int _)⟩)

/-! ### lists of parts -/
def lNil : DenL := fun _ R => .ok [] R
def lCons (d : Den) (r : DenL) : DenL := fun ρ R => (d ρ R).bind fun x R1 => (r ρ R1).bind fun xs R2 => .ok (x :: xs) R2
theorem das_nil : DEs X c E [] lNil := PA.imp pa_nil fun σ H Q ⟨a0, S, ρ, R, w, en, p⟩ => p _ _ w .nil
theorem das_cons {e : Expr} {es : List Expr} {d : Den} {r : DenL} (h : DE X c E e d) (hr : DEs X c E es r) (hs : starEach (e :: es) X.env = (false, eval e X.env) :: starEach es X.env := by rfl) : DEs X c E (e :: es) (lCons d r) :=
  PA.imp (pa_cons h hr hs) fun σ H Q ⟨a0, S, ρ, R, w, en, p⟩ => tD_of w en (ends_next p fun x R1 p v H1 w1 r1 =>
    tDL_of w1.here (en.mono w1.sub) (ends_back w1 (ends_next p fun y R2 p => p) fun y R2 p u H2 w2 r2 => p _ _ (w1.trans w2) (.cons (r1.mono w2.sub) r2)))
def dTup (es : DenL) : Den := fun ρ R => (es ρ R).bind fun xs R1 => if xs.length ≤ sizeLine then .ok (.tuple xs) R1 else .stuck
theorem de_tup {es : List Expr} {x1} {d : DenL} (h : DEs X c E es d) : DE X c E (.Tuple es x1 pos) (dTup d) :=
  PE.imp (pe_tup h) fun σ H Q ⟨a0, S, ρ, R, w, en, p⟩ => tDL_of w en (ends_next p fun xs R1 p vs H1 w1 r1 => by
    split at p
    · rename_i hl
      exact ⟨by rw [r1.length]; exact hl, fun q hq => p _ _ (w1.trans (w1.here.new hq)) (new_repT w1.here hq r1)⟩
    · exact p.elim)
/-! ### new lists -/
def dLst (l : DenL) : Den := fun ρ R => (l ρ R).map PyData.list
theorem tD_of_N {K : PySem.W.Frag} {l : DenL} {σ : L2.St} {H : Hp} {Q : VK} (h : tD K c E (dLst l) σ H Q) : tDN K c E l σ H Q := by
  obtain ⟨a0, S, ρ, R, w, en, p⟩ := h
  refine ⟨a0, S, ρ, R, w, en, ends_next p fun ds R1 q p vs H1 hp w1 h1 r => ?_⟩
  have nS : p ∉ S := fun z => by
    obtain ⟨o, e, n⟩ := w.sS p z
    exact hp o e n
  refine q _ _ w1 (.lst ?_ (r.mono (hide_more fun b hb => List.mem_cons_of_mem _ hb)))
  rw [hide_out nS]
  exact h1
theorem DN.de {e : Expr} {l : DenL} (h : DN X c E e l) : DE X c E e (dLst l) := PE.imp h fun _ _ _ => tD_of_N
def nLst (es : DenL) : DenL := fun ρ R => (es ρ R).bind fun xs R1 => if xs.length ≤ sizeLine then .ok xs R1 else .stuck
theorem dn_lst {es : List Expr} {d : DenL} (h : DEs X c E es d) : DN X c E (.List es pos) (nLst d) :=
  PE.imp (pe_lst h) fun σ H Q ⟨a0, S, ρ, R, w, en, p⟩ => tDL_of w en (ends_next p fun xs R1 p vs H1 w1 r1 => by
    split at p
    · rename_i hl
      refine ⟨by rw [r1.length]; exact hl, fun q hq => ?_⟩
      exact p _ _ _ (w1.fr hq) (w1.trans (w1.here.new hq)) upd_same (r1.mono (new_sub w1.here hq))
    · exact p.elim)
end
end Ev

/-! Ev: dicts by data -/
namespace Ev
open PySem PySem.Spec PyProof.Rows L2

def toKey : PyData → Option Key
  | .int i => some (.inl i)
  | .str x => some (.inr x)
  | _ => none
def toKeys : List PyData → Option (List Key)
  | [] => some []
  | d :: ds => (toKey d).bind fun k => (toKeys ds).map fun r => k :: r
def toKeyT : PyData → Option (List Key)
  | .tuple ds => toKeys ds
  | _ => none
theorem toKey_keyD (k : Key) : toKey (keyD k) = some k := by cases k <;> rfl
theorem toKey_eq {d : PyData} {k : Key} (h : toKey d = some k) : d = keyD k := by
  cases d <;> simp only [toKey, reduceCtorEq, Option.some.injEq] at h <;> subst h <;> rfl
theorem toKeys_keyD : ∀ (k : List Key), toKeys (k.map keyD) = some k
  | [] => rfl
  | a :: r => by rw [List.map_cons, toKeys, toKey_keyD, toKeys_keyD r]; rfl
theorem toKeys_eq : ∀ {ds : List PyData} {k : List Key}, toKeys ds = some k → ds = k.map keyD
  | [], k, h => by cases h; rfl
  | d :: ds, k, h => by
    rw [toKeys] at h
    obtain ⟨a, h1, h2⟩ := Option.bind_eq_some_iff.mp h
    obtain ⟨r, h3, h4⟩ := Option.map_eq_some_iff.mp h2
    subst h4
    rw [toKey_eq h1, toKeys_eq h3]
    rfl
theorem toKeyT_keyT (k : List Key) : toKeyT (keyT k) = some k := toKeys_keyD k
theorem toKeyT_eq {d : PyData} {k : List Key} (h : toKeyT d = some k) : d = keyT k := by
  cases d <;> simp only [toKeyT, reduceCtorEq] at h
  rw [toKeys_eq h]
  rfl
theorem toKey_keyT (k : List Key) : toKey (keyT k) = none := rfl
theorem toKeyT_keyD (k : Key) : toKeyT (keyD k) = none := by cases k <;> rfl
/-- whether two keys are one -/
def keq (a b : PyData) : Bool := match toKey a, toKey b with
  | some x, some y => decide (x = y)
  | none, none => (match toKeyT a, toKeyT b with
    | some x, some y => decide (x = y)
    | _, _ => false)
  | _, _ => false
theorem keq_D (a b : Key) : keq (keyD a) (keyD b) = decide (a = b) := by unfold keq; rw [toKey_keyD, toKey_keyD]
theorem keq_T (a b : List Key) : keq (keyT a) (keyT b) = decide (a = b) := by
  unfold keq
  rw [toKey_keyT, toKey_keyT]
  dsimp only
  rw [toKeyT_keyT, toKeyT_keyT]
def dget (ps : List (PyData × PyData)) (k : PyData) : Option PyData := (ps.find? fun p => keq p.1 k).map (·.2)
def dput (ps : List (PyData × PyData)) (k v : PyData) : List (PyData × PyData) := if (ps.any fun p => keq p.1 k) = true then ps.map (fun p => if keq p.1 k then (p.1, v) else p) else ps ++ [(k, v)]
def ddrop (ps : List (PyData × PyData)) (k : PyData) : List (PyData × PyData) := ps.filter fun p => !keq p.1 k
/-- the dict's keys are of the key's kind -/
def kinOk (ps : List (PyData × PyData)) (k : PyData) : Bool :=
  ((toKey k).isSome && ps.all fun p => (toKey p.1).isSome) || ((toKeyT k).isSome && ps.all fun p => (toKeyT p.1).isSome)

section
variable {K : PySem.W.Frag} {a0 : Addr} {H : Hp}
def RelD (K : PySem.W.Frag) (a0 : Addr) (H : Hp) : Option V → Option PyData → Prop
  | some v, some d => Rep K a0 H v d
  | none, none => True
  | _, _ => False
theorem RepK.get (k : Key) : ∀ {kvs : List (Key × V)} {ps : List (PyData × PyData)}, RepK K a0 H kvs ps → RelD K a0 H (valV kvs k) (dget ps (keyD k))
  | _, _, .nil => True.intro
  | _, _, .cons (k := j) (v := v) (vs := vs) (d := d) (ds := ds) h r => by
    by_cases e : j = k
    · have e1 : valV ((j, v) :: vs) k = some v := valV_pos e
      have e2 : dget ((keyD j, d) :: ds) (keyD k) = some d := by
        unfold dget
        rw [List.find?_cons_of_pos (by rw [keq_D]; exact decide_eq_true e)]
        rfl
      rw [e1, e2]
      exact h
    · have e1 : valV ((j, v) :: vs) k = valV vs k := valV_neg e
      have e2 : dget ((keyD j, d) :: ds) (keyD k) = dget ds (keyD k) := by
        unfold dget
        rw [List.find?_cons_of_neg (by rw [keq_D, decide_eq_false e]; exact Bool.false_ne_true)]
      rw [e1, e2]
      exact RepK.get k r
theorem RepT.get (k : List Key) : ∀ {kvs : List (List Key × V)} {ps : List (PyData × PyData)}, RepT K a0 H kvs ps → RelD K a0 H (valV kvs k) (dget ps (keyT k))
  | _, _, .nil => True.intro
  | _, _, .cons (k := j) (v := v) (vs := vs) (d := d) (ds := ds) h r => by
    by_cases e : j = k
    · have e1 : valV ((j, v) :: vs) k = some v := valV_pos e
      have e2 : dget ((keyT j, d) :: ds) (keyT k) = some d := by
        unfold dget
        rw [List.find?_cons_of_pos (by rw [keq_T]; exact decide_eq_true e)]
        rfl
      rw [e1, e2]
      exact h
    · have e1 : valV ((j, v) :: vs) k = valV vs k := valV_neg e
      have e2 : dget ((keyT j, d) :: ds) (keyT k) = dget ds (keyT k) := by
        unfold dget
        rw [List.find?_cons_of_neg (by rw [keq_T, decide_eq_false e]; exact Bool.false_ne_true)]
      rw [e1, e2]
      exact RepT.get k r
theorem RepK.length : ∀ {kvs : List (Key × V)} {ps : List (PyData × PyData)}, RepK K a0 H kvs ps → kvs.length = ps.length
  | _, _, .nil => rfl
  | _, _, .cons _ r => by rw [List.length_cons, List.length_cons, RepK.length r]
theorem RepT.length : ∀ {kvs : List (List Key × V)} {ps : List (PyData × PyData)}, RepT K a0 H kvs ps → kvs.length = ps.length
  | _, _, .nil => rfl
  | _, _, .cons _ r => by rw [List.length_cons, List.length_cons, RepT.length r]
theorem RepK.any (k : Key) : ∀ {kvs : List (Key × V)} {ps : List (PyData × PyData)}, RepK K a0 H kvs ps → (kvs.any fun kv => decide (kv.1 = k)) = ps.any fun p => keq p.1 (keyD k)
  | _, _, .nil => rfl
  | _, _, .cons _ r => by rw [List.any_cons, List.any_cons, RepK.any k r, keq_D]
theorem RepT.any (k : List Key) : ∀ {kvs : List (List Key × V)} {ps : List (PyData × PyData)}, RepT K a0 H kvs ps → (kvs.any fun kv => decide (kv.1 = k)) = ps.any fun p => keq p.1 (keyT k)
  | _, _, .nil => rfl
  | _, _, .cons _ r => by rw [List.any_cons, List.any_cons, RepT.any k r, keq_T]
theorem RepK.append : ∀ {v v' : List (Key × V)} {d d' : List (PyData × PyData)}, RepK K a0 H v d → RepK K a0 H v' d' → RepK K a0 H (v ++ v') (d ++ d')
  | _, _, _, _, .nil, s => s
  | _, _, _, _, .cons h r, s => .cons h (RepK.append r s)
theorem RepT.append : ∀ {v v' : List (List Key × V)} {d d' : List (PyData × PyData)}, RepT K a0 H v d → RepT K a0 H v' d' → RepT K a0 H (v ++ v') (d ++ d')
  | _, _, _, _, .nil, s => s
  | _, _, _, _, .cons h r, s => .cons h (RepT.append r s)
theorem RepK.repl (k : Key) {v : V} {d : PyData} (h : Rep K a0 H v d) : ∀ {kvs : List (Key × V)} {ps : List (PyData × PyData)}, RepK K a0 H kvs ps →
    RepK K a0 H (kvs.map fun kv => if kv.1 = k then (kv.1, v) else kv) (ps.map fun p => if keq p.1 (keyD k) then (p.1, d) else p)
  | _, _, .nil => .nil
  | _, _, .cons (k := j) h' r => by
    rw [List.map_cons, List.map_cons]
    dsimp only
    rw [keq_D]
    by_cases e : j = k
    · rw [if_pos e, if_pos (decide_eq_true e)]
      exact .cons h (RepK.repl k h r)
    · rw [if_neg e, if_neg (by rw [decide_eq_false e]; exact Bool.false_ne_true)]
      exact .cons h' (RepK.repl k h r)
theorem RepT.repl (k : List Key) {v : V} {d : PyData} (h : Rep K a0 H v d) : ∀ {kvs : List (List Key × V)} {ps : List (PyData × PyData)}, RepT K a0 H kvs ps →
    RepT K a0 H (kvs.map fun kv => if kv.1 = k then (kv.1, v) else kv) (ps.map fun p => if keq p.1 (keyT k) then (p.1, d) else p)
  | _, _, .nil => .nil
  | _, _, .cons (k := j) h' r => by
    rw [List.map_cons, List.map_cons]
    dsimp only
    rw [keq_T]
    by_cases e : j = k
    · rw [if_pos e, if_pos (decide_eq_true e)]
      exact .cons h (RepT.repl k h r)
    · rw [if_neg e, if_neg (by rw [decide_eq_false e]; exact Bool.false_ne_true)]
      exact .cons h' (RepT.repl k h r)
theorem RepK.put (k : Key) {v : V} {d : PyData} (h : Rep K a0 H v d) {kvs : List (Key × V)} {ps : List (PyData × PyData)} (r : RepK K a0 H kvs ps) : RepK K a0 H (putK kvs k v) (dput ps (keyD k) d) := by
  unfold putK dput
  rw [r.any k]
  split
  · exact r.repl k h
  · exact r.append (.cons h .nil)
theorem RepT.put (k : List Key) {v : V} {d : PyData} (h : Rep K a0 H v d) {kvs : List (List Key × V)} {ps : List (PyData × PyData)} (r : RepT K a0 H kvs ps) : RepT K a0 H (putK kvs k v) (dput ps (keyT k) d) := by
  unfold putK dput
  rw [r.any k]
  split
  · exact r.repl k h
  · exact r.append (.cons h .nil)
theorem RepK.drop (k : Key) : ∀ {kvs : List (Key × V)} {ps : List (PyData × PyData)}, RepK K a0 H kvs ps → RepK K a0 H (dropK kvs k) (ddrop ps (keyD k))
  | _, _, .nil => .nil
  | _, _, .cons (k := j) (v := v) (vs := vs) (d := d) (ds := ds) h' r => by
    have ih := RepK.drop k r
    unfold dropK ddrop at ih ⊢
    by_cases e : j = k
    · rw [List.filter_cons_of_neg (by simp [e]), List.filter_cons_of_neg (by rw [keq_D, decide_eq_true e]; simp)]
      exact ih
    · rw [List.filter_cons_of_pos (by simp [e]), List.filter_cons_of_pos (by rw [keq_D, decide_eq_false e]; rfl)]
      exact .cons h' ih
theorem repK_noT : ∀ {kvs : List (Key × V)} {ps : List (PyData × PyData)}, RepK K a0 H kvs ps → (ps.all fun p => (toKeyT p.1).isSome) = true → kvs = [] ∧ ps = []
  | _, _, .nil, _ => ⟨rfl, rfl⟩
  | _, _, .cons _ r, h => by
    rw [List.all_cons, Bool.and_eq_true, toKeyT_keyD] at h
    cases h.1
theorem repT_noK : ∀ {kvs : List (List Key × V)} {ps : List (PyData × PyData)}, RepT K a0 H kvs ps → (ps.all fun p => (toKey p.1).isSome) = true → kvs = [] ∧ ps = []
  | _, _, .nil, _ => ⟨rfl, rfl⟩
  | _, _, .cons _ r, h => by
    rw [List.all_cons, Bool.and_eq_true, toKey_keyT] at h
    cases h.1
/-- a tuple of keys that is told by data is a tracked one -/
theorem repA_keys : ∀ {xs : List V} {ks : List Key}, RepA K a0 H xs (ks.map keyD) → xs = ks.map kV
  | _, [], .nil => rfl
  | _, .inl i :: ks, .cons h r => by rw [h.int_inv, repA_keys r]; rfl
  | _, .inr x :: ks, .cons h r => by rw [h.str_inv, repA_keys r]; rfl
end

/-! ### the empty dict is of both kinds -/
section
variable {P : Program} {w : World} {H : Hp} {h : Heap} {a : Addr}
theorem empty_KT (x : ObjOk P w H h a (.dK [])) : ObjOk P w H h a (.dT []) := by
  obtain ⟨z, hd, vs, rel, o, es, ep, e, ex, d, keys, prs, nd⟩ := x
  cases rel
  cases hes : es.toList with
  | nil => exact ⟨z, hd, [], .nil, o, es, ep, e, ex, d, hes, List.nodup_nil⟩
  | cons p r =>
    rw [hes] at prs
    cases prs
theorem empty_TK (x : ObjOk P w H h a (.dT [])) : ObjOk P w H h a (.dK []) := by
  obtain ⟨z, hd, xs, rel, o, es, ep, e, ex, d, hes, nd⟩ := x
  cases rel
  have e0 : es = #[] := by
    cases es
    simp at hes
    subst hes
    rfl
  subst e0
  refine ⟨z, hd, [], .nil, o, #[], ep, e, ex, d, ?_, ?_, List.nodup_nil⟩
  · intro en hen
    simp at hen
  · exact .nil
end
end Ev

/-! Ev: reading dicts, subscripts, slices -/
namespace Ev
open PySem PySem.Spec PyProof.Rows L2
section
variable {X : Cx} {pins : List (Addr × Obj)} {σ : L2.St} {H : Hp} {s : Shared} {a a0 : Addr} {S : List Addr} {y : V} {u : Value} {A : Around} {E : Value → Shared → Prop} {ps : List (PyData × PyData)} {kd : PyData}
theorem rdK (I : Inv X pins σ H s) (r : Rep X.K a0 (hide H S) (.ref a) (.dict ps)) (hk : (ps.all fun p => (toKey p.1).isSome) = true) : ∃ kvs, ObjOk X.prog X.w H s.heap a (.dK kvs) ∧ RepK X.K a0 (hide H S) kvs ps := by
  obtain ⟨b, e, q⟩ := r.dict_inv
  cases e
  rcases q with ⟨kvs, q1, q2⟩ | ⟨kvs, q1, q2⟩ | ⟨e, q⟩
  · exact ⟨kvs, rd_of I.hok (hide_sub.rd nt_dK q1), q2⟩
  · obtain ⟨e1, e2⟩ := repT_noK q2 hk
    subst e1 e2
    exact ⟨[], empty_TK (rd_of I.hok (hide_sub.rd nt_dT q1)), .nil⟩
  · subst q
    cases hk
theorem rdT (I : Inv X pins σ H s) (r : Rep X.K a0 (hide H S) (.ref a) (.dict ps)) (hk : (ps.all fun p => (toKeyT p.1).isSome) = true) : ∃ kvs, ObjOk X.prog X.w H s.heap a (.dT kvs) ∧ RepT X.K a0 (hide H S) kvs ps := by
  obtain ⟨b, e, q⟩ := r.dict_inv
  cases e
  rcases q with ⟨kvs, q1, q2⟩ | ⟨kvs, q1, q2⟩ | ⟨e, q⟩
  · obtain ⟨e1, e2⟩ := repK_noT q2 hk
    subst e1 e2
    exact ⟨[], empty_KT (rd_of I.hok (hide_sub.rd nt_dK q1)), .nil⟩
  · exact ⟨kvs, rd_of I.hok (hide_sub.rd nt_dT q1), q2⟩
  · subst q
    cases hk
theorem key_data {k : Key} (rk : Rep X.K a0 (hide H S) y (keyD k)) : y = kV k := by
  cases k with
  | inl i => exact rk.int_inv
  | inr x => exact rk.str_inv
theorem keyT_data {k : List Key} (rk : Rep X.K a0 (hide H S) y (keyT k)) : ∃ b, y = .ref b ∧ H b = some (.tup (k.map kV)) := by
  obtain ⟨b, xs, e, h, r⟩ := rk.tup_inv
  rw [repA_keys r] at h
  exact ⟨b, e, (of_hide h).2⟩
theorem dT_at {kvs : List (List Key × V)} (I : Inv X pins σ H s) (x : ObjOk X.prog X.w H s.heap a (.dT kvs)) : kvs.length ≤ sizeLine ∧ (a == sysModules) = false ∧
    ∃ xs, KT H kvs xs ∧ s.heap.DictOfH (tupleKind (mixKind X.prog X.w)) a xs := by
  obtain ⟨z, y, xs, r, o, es, ep, h1, h2, h3, h4, h5⟩ := x
  refine ⟨z, y, xs, r, o, es, ep, h1, h2, h3, h4, fun x hx => ?_, h5⟩
  have all : ∀ {l : List (List Key × V)} {m : List (List Key × Addr × Value)}, KT H l m → ∀ x ∈ m, (tupleKind (mixKind X.prog X.w)).is s.heap x.1 x.2.1 := by
    intro l m q
    induction q with
    | nil => intro x hx; exact nomatch hx
    | @cons p q ps qs hq t ih =>
      intro x hx
      rcases List.mem_cons.mp hx with e | hx
      · subst e
        exact key_of I.hok (by rw [← hq.1]; exact hq.2.1)
      · exact ih x hx
  exact all r x hx
theorem relD_isSome {K : PySem.W.Frag} {o : Option V} {q : Option PyData} (r : RelD K a0 H o q) : o.isSome = q.isSome := by
  cases o <;> cases q <;> first | rfl | exact r.elim
theorem relD_some {K : PySem.W.Frag} {o : Option V} {d : PyData} (r : RelD K a0 H o (some d)) : ∃ v, o = some v ∧ Rep K a0 H v d := by
  cases o with
  | none => exact r.elim
  | some v => exact ⟨v, rfl, r⟩
theorem kin_cases (hk : kinOk ps kd = true) : (∃ k, kd = keyD k ∧ (ps.all fun p => (toKey p.1).isSome) = true) ∨ ∃ k, kd = keyT k ∧ (ps.all fun p => (toKeyT p.1).isSome) = true := by
  unfold kinOk at hk
  rw [Bool.or_eq_true, Bool.and_eq_true, Bool.and_eq_true, Option.isSome_iff_exists, Option.isSome_iff_exists] at hk
  rcases hk with ⟨⟨k, e⟩, h⟩ | ⟨⟨k, e⟩, h⟩
  · exact .inl ⟨k, toKey_eq e, h⟩
  · exact .inr ⟨k, toKeyT_eq e, h⟩
/-- d[y] -/
theorem d_getD {d : PyData} {Q : Value → Shared → Prop} (hu : A.units + 1 < cLine) (I : Inv X pins σ H s) (r : Rep X.K a0 (hide H S) (.ref a) (.dict ps)) (rk : Rep X.K a0 (hide H S) y kd) (hk : kinOk ps kd = true) (hd : dget ps kd = some d) (ry : RelV y u)
    (h : ∀ v w' s', Inv X pins σ H s' → RelV v w' → Rep X.K a0 (hide H S) v d → Q w' s') : wpAny (model X.prog X.w) A (getItem (.ref a) u) Q E s := by
  rcases kin_cases hk with ⟨k, rfl, hk2⟩ | ⟨k, rfl, hk2⟩
  · obtain ⟨kvs, x, q⟩ := rdK I r hk2
    obtain ⟨z, hm, vs, rel, dd⟩ := x
    have g := q.get k
    rw [hd] at g
    obtain ⟨v, e, rv⟩ := relD_some g
    obtain ⟨w', hw, rw'⟩ := RelO.some_of (v := v) (o := valueAt vs k) (by rw [← e]; exact rel.val k)
    have := key_data rk; subst y
    exact wpAny_getItem_of (kV_is ry) dd.mapOf hw (h v w' _ (I.tok _) rw' rv)
  · obtain ⟨kvs, x, q⟩ := rdT I r hk2
    obtain ⟨z, hm, xs, rel, dd⟩ := dT_at I x
    have g := q.get k
    rw [hd] at g
    obtain ⟨v, e, rv⟩ := relD_some g
    obtain ⟨b, rfl, eb⟩ := keyT_data rk
    cases (show u = Value.ref b from ry)
    obtain ⟨w', hw, rw'⟩ := RelO.some_of (v := v) (o := (atKey xs k).map (·.2)) (by rw [← e]; exact rel.val k)
    obtain ⟨p, hp, hp2⟩ := Option.map_eq_some_iff.mp hw
    refine wpAny_getItem_heap (tupleKind_room_in1 hu) (key_of I.hok eb) dd hp ?_
    rw [hp2]
    exact h v w' _ (I.tok _) rw' rv
/-- y in d -/
theorem d_inD {Q : Value → Shared → Prop} (hu : A.units + 1 < cLine) (I : Inv X pins σ H s) (r : Rep X.K a0 (hide H S) (.ref a) (.dict ps)) (rk : Rep X.K a0 (hide H S) y kd) (hk : kinOk ps kd = true) (ry : RelV y u)
    (h : ∀ s', Inv X pins σ H s' → Q (.bool (dget ps kd).isSome) s') : wpAny (model X.prog X.w) A (compareOp .In u (.ref a)) Q E s := by
  rcases kin_cases hk with ⟨k, rfl, hk2⟩ | ⟨k, rfl, hk2⟩
  · obtain ⟨kvs, x, q⟩ := rdK I r hk2
    obtain ⟨z, hm, vs, rel, dd⟩ := x
    have := key_data rk; subst y
    refine wpAny_in_of (kV_is ry) hm dd.mapOf ?_
    rw [← (rel.val k).isSome_eq, relD_isSome (q.get k)]
    exact h _ (I.tok _)
  · obtain ⟨kvs, x, q⟩ := rdT I r hk2
    obtain ⟨z, hm, xs, rel, dd⟩ := dT_at I x
    obtain ⟨b, rfl, eb⟩ := keyT_data rk
    cases (show u = Value.ref b from ry)
    refine wpAny_in_heap (tupleKind_room_in1 hu) (key_of I.hok eb) hm dd ?_
    have e := (rel.val k).isSome_eq
    rw [Option.isSome_map] at e
    rw [← e, relD_isSome (q.get k)]
    exact h _ (I.tok _)
theorem d_notInD {Q : Value → Shared → Prop} (hu : A.units + 1 < cLine) (I : Inv X pins σ H s) (r : Rep X.K a0 (hide H S) (.ref a) (.dict ps)) (rk : Rep X.K a0 (hide H S) y kd) (hk : kinOk ps kd = true) (ry : RelV y u)
    (h : ∀ s', Inv X pins σ H s' → Q (.bool (!(dget ps kd).isSome)) s') : wpAny (model X.prog X.w) A (compareOp .NotIn u (.ref a)) Q E s := by
  rcases kin_cases hk with ⟨k, rfl, hk2⟩ | ⟨k, rfl, hk2⟩
  · obtain ⟨kvs, x, q⟩ := rdK I r hk2
    obtain ⟨z, hm, vs, rel, dd⟩ := x
    have := key_data rk; subst y
    refine wpAny_notIn_of (kV_is ry) hm dd.mapOf ?_
    rw [← (rel.val k).isSome_eq, relD_isSome (q.get k)]
    exact h _ (I.tok _)
  · obtain ⟨kvs, x, q⟩ := rdT I r hk2
    obtain ⟨z, hm, xs, rel, dd⟩ := dT_at I x
    obtain ⟨b, rfl, eb⟩ := keyT_data rk
    cases (show u = Value.ref b from ry)
    refine wpAny_notIn_heap (tupleKind_room_in1 hu) (key_of I.hok eb) hm dd ?_
    have e := (rel.val k).isSome_eq
    rw [Option.isSome_map] at e
    rw [← e, relD_isSome (q.get k)]
    exact h _ (I.tok _)
end

/-! ### in, not in: whatever the second is -/
def inD (x : PyData) : PyData → Option Bool
  | .dict ps => if kinOk ps x then some (dget ps x).isSome else none
  | y => inSq x y
section
variable {X : Cx} {c : Cfg} {E : XK} {pos : Pos}
theorem cmD_inD (hu : X.A.units + 65 < cLine) : CmD X c .In (fun x y => (inD x y).map PyData.bool) := by
  rintro pins s σ H x y v u Q I rx ry ⟨a0, S, R, dx, dy, d, w, r1, r2, e, k⟩
  dsimp only at e
  unfold inD at e
  split at e
  · split at e
    · rename_i hk
      cases e
      obtain ⟨a, ey, _⟩ := r2.dict_inv
      subst ey
      cases (show u = Value.ref a from ry)
      exact d_inD (by omega) I r2 r1 hk rx fun s' I' => ⟨.bl _, H, I', rfl, k _ _ w (.bl _)⟩
    · cases e
  · exact cmD_in hu pins s σ H x y v u Q I rx ry ⟨a0, S, R, dx, dy, d, w, r1, r2, e, k⟩
theorem cmD_notinD (hu : X.A.units + 65 < cLine) : CmD X c .NotIn (fun x y => (inD x y).map fun b => PyData.bool (!b)) := by
  rintro pins s σ H x y v u Q I rx ry ⟨a0, S, R, dx, dy, d, w, r1, r2, e, k⟩
  dsimp only at e
  unfold inD at e
  split at e
  · split at e
    · rename_i hk
      cases e
      obtain ⟨a, ey, _⟩ := r2.dict_inv
      subst ey
      cases (show u = Value.ref a from ry)
      exact d_notInD (by omega) I r2 r1 hk rx fun s' I' => ⟨.bl _, H, I', rfl, k _ _ w (.bl _)⟩
    · cases e
  · exact cmD_notin hu pins s σ H x y v u Q I rx ry ⟨a0, S, R, dx, dy, d, w, r1, r2, e, k⟩

/-! ### subscripts -/
def idxD : PyData → PyData → Option PyData
  | .list xs, .int i => atI xs i
  | .tuple xs, .int i => atI xs i
  | .str z, .int i => if z.length ≤ sizeLine then (atI z.cps.toList i).map fun q => .str ⟨#[q]⟩ else none
  | .dict ps, k => if kinOk ps k then dget ps k else none
  | _, _ => none
def isDictD : PyData → Bool
  | .dict _ => true
  | _ => false
theorem de_idx {a b : Expr} {da db : Den} (hu : X.A.units + 1 < cLine) (ha : DE X c E a da) (hb : DE X c E b db) (hs : PlainIx b := by exact fun _ _ => rfl) : DE X c E (.Subscript a b pos) (dBin idxD da db) := by
  have h1 : PE X (.Subscript a b pos) _ := pe_ix ix_seq ha hb hs
  have h2 : PE X (.Subscript a b pos) (fun σ H Q => tD X.K c E da σ H fun x H1 => tD X.K c E db σ H1 fun y H2 => ∃ a0 S ad ps kd d, x = .ref ad ∧ Rep X.K a0 (hide H2 S) x (.dict ps) ∧ Rep X.K a0 (hide H2 S) y kd ∧ kinOk ps kd = true ∧ dget ps kd = some d ∧ ∀ v, Rep X.K a0 (hide H2 S) v d → Q v H2) := by
    refine ⟨fun pins s σ H Q I h => ?_⟩
    refine subD_of PySem.F.slot_dict_getitem.lookup hs (thn (ha.run pins s σ H _ I h) fun u s1 ⟨x, H1, I1, rx, q1⟩ => thn (hb.run pins s1 σ H1 _ I1 q1) fun iv s2 ⟨y, H2, I2, ry, a0, S, ad, ps, kd, d, ex, rd, rk, hk, hd, q2⟩ => ?_)
    subst ex
    obtain rfl : u = Value.ref ad := rx
    refine ⟨?_, d_getD hu I2 rd rk hk hd ry fun v w' s3 I3 rw' rv => ⟨v, H2, I3, rw', q2 v rv⟩⟩
    rcases kin_cases hk with ⟨k, rfl, hk2⟩ | ⟨k, rfl, hk2⟩
    · obtain ⟨kvs, x, q⟩ := rdK I2 rd hk2
      obtain ⟨z, hm, vs, rel, dd⟩ := x
      exact dd.typeIs
    · obtain ⟨kvs, x, q⟩ := rdT I2 rd hk2
      obtain ⟨z, hm, xs, rel, dd⟩ := dT_at I2 x
      exact dd.typeIs
  refine PE.imp (PE.or h1 h2) fun σ H Q ⟨a0, S, ρ, R, w, en, p⟩ => ?_
  unfold dBin at p
  cases hr : da ρ R with
  | stuck =>
    rw [hr] at p
    exact p.elim
  | exc nm R1 =>
    rw [hr] at p
    refine .inl (tD_of w en ?_)
    rw [hr]
    exact p
  | ok dx R1 =>
    rw [hr, bind_ok] at p
    by_cases hd : ∃ ps, dx = .dict ps
    · obtain ⟨ps, rfl⟩ := hd
      refine .inr (tD_of w en ?_)
      rw [hr]
      intro v H1 w1 r1
      refine tD_of w1.here (en.mono w1.sub) (ends_back w1 (ends_next p fun y R2 p => p) fun y R2 p u H2 w2 r2 => ?_)
      obtain ⟨d, e, q⟩ := Ends.ofO p
      have e' : (if kinOk ps y = true then dget ps y else none) = some d := by cases y <;> exact e
      split at e'
      · rename_i hk
        obtain ⟨ad, ev, _⟩ := r1.dict_inv
        exact ⟨a0, S, ad, _, y, d, ev, r1.mono w2.sub, r2, hk, e', fun z rz => q z H2 (w1.trans w2) rz⟩
      · cases e'
    · refine .inl (tD_of w en ?_)
      rw [hr]
      intro v H1 w1 r1
      refine tD_of w1.here (en.mono w1.sub) (ends_back w1 (ends_next p fun y R2 p => p) fun y R2 p u H2 w2 r2 => ?_)
      obtain ⟨d, e, q⟩ := Ends.ofO p
      unfold idxD at e
      split at e
      · obtain ⟨ad, xs, rfl, h1, rA⟩ := r1.list_inv
        have := r2.int_inv; subst u
        obtain ⟨z, e1, e2⟩ := rA.atI e
        exact .inl ⟨ad, xs, _, z, rfl, rfl, .inl (.inl (of_hide (w2.sub _ _ h1 nt_lst)).2), e1, q z H2 (w1.trans w2) (e2.mono w2.sub)⟩
      · obtain ⟨ad, xs, rfl, h1, rA⟩ := r1.tup_inv
        have := r2.int_inv; subst u
        obtain ⟨z, e1, e2⟩ := rA.atI e
        exact .inr (.inl ⟨ad, xs, _, z, rfl, rfl, .inl (.inl (of_hide (w2.sub _ _ h1 nt_tup)).2), e1, q z H2 (w1.trans w2) (e2.mono w2.sub)⟩)
      · split at e
        · rename_i hl
          have := r1.str_inv; subst v
          have := r2.int_inv; subst u
          obtain ⟨z, e1, e2⟩ := Option.map_eq_some_iff.mp e
          subst e2
          exact .inr (.inr ⟨_, _, z, rfl, rfl, hl, e1, q _ H2 (w1.trans w2) (.str _)⟩)
        · cases e
      · exact absurd ⟨_, rfl⟩ hd
      · cases e
end
end Ev

/-! Ev: calls -/
namespace Ev
open PySem PySem.Spec PyProof.Rows L2

/-! ### defs of the text -/
def spD (K : PySem.W.Frag) (c : Cfg) (np : Nat) (F : List PyData → Row → Res PyData) : Sp := fun vs H Q E => ∃ a0 S R ds, ds.length = np ∧ Wd K c a0 S H H R ∧ RepA K a0 (hide H S) vs ds ∧
  Ends (F ds R) (fun d R' => ∀ v H', Wd K c a0 S H H' R' → Rep K a0 (hide H' S) v d → Q v H') (Ex K c E a0 S H)
structure Fn (P : Program) (w : World) (K : PySem.W.Frag) (mg : Str → Option Value) (base : Heap) (c : Cfg) (n : Nat) (x : Str) (ps : List Str) (F : List PyData → Row → Res PyData) : Prop where
  ex : ∃ f fd, FnOk P w K mg base (L2.CX P w) n f fd ps (spD K c ps.length F) ∧ mg x = some (.ref f) ∧ PySem.W.keepIn K (.ref f) = true ∧
    (∀ us : List Value, us.length = ps.length → bindArgs fd ⟨us, []⟩ = pure (ps.zip us)) ∧
    (∀ (us ws : List Value) (ks : List Str), ks = ps.drop us.length → (us ++ ws).length = ps.length → ws ≠ [] → bindArgs fd ⟨us, ks.zip ws⟩ = pure (ps.zip (us ++ ws)))
section
variable {X : Cx} {c : Cfg} {E : XK} {p pos : Pos}
def dCallF (F : List PyData → Row → Res PyData) (l : DenL) : Den := fun ρ R => (l ρ R).bind F
theorem de_call {x : Str} {ps : List Str} {n m : Nat} {F : List PyData → Row → Res PyData} {e : Expr} {es : List Expr} {l : DenL} (fn : Fn X.prog X.w X.K X.mg X.base c n x ps F) (hr : Room m X.A) (hnm : n ≤ m) (hx : Passes (L2.CX X.prog X.w) X E) (ha : DEs X c E (e :: es) l)
    (hl : ∀ ρ R ds R', l ρ R = .ok ds R' → ds.length = ps.length) (hg : Gl X x := by rfl)
    (hdb : (x == ("__debug__" : Str)) = false := by decide) (he : starEach (e :: es) X.env = (false, eval e X.env) :: starEach es X.env := by rfl) (hpl : (backTo pos (starEach es X.env)).any (·.1) = false := by rfl) :
    DE X c E (.Call (.Name x p) (e :: es) [] pos) (dCallF F l) := by
  obtain ⟨f, fd, ok, hm, hk, hb, _⟩ := fn.ex
  refine PE.imp (pe_call ok (hr.mono hnm) hg hm hk (Binds.all hb) .nil hx ha hdb he hpl) fun σ H Q ⟨a0, S, ρ, R, w, en, q⟩ => ?_
  have q0 := q
  unfold dCallF at q0
  cases hd : l ρ R with
  | stuck => rw [hd] at q0; exact q0.elim
  | exc nm R1 =>
    rw [hd] at q0
    refine tDL_of w en ?_
    rw [hd]
    exact q0
  | ok ds R1 =>
    rw [hd, bind_ok] at q0
    refine tDL_of w en ?_
    rw [hd]
    intro vs H1 w1 r1
    rw [List.append_nil]
    exact ⟨a0, S, R1, ds, hl _ _ _ _ hd, w1.here, r1, ends_back w1 q0 fun d R' k v H2 w2 => k v H2 (w1.trans w2)⟩
/-- f(a, .., k = v): the keywords are the last parameters in their order -/
def lApp (l k : DenL) : DenL := fun ρ R => (l ρ R).bind fun xs R1 => (k ρ R1).bind fun ys R2 => .ok (xs ++ ys) R2
def DK (X : Cx) (c : Cfg) (E : XK) (kws : List Keyword) (den : DenL) : Prop := PK X kws (tDL X.K c E den)
theorem PK.imp {kws : List Keyword} {t t' : TA} (h : PK X kws t) (m : ∀ σ H Q, t' σ H Q → t σ H Q) : PK X kws t' := ⟨fun pos pins s σ H Q I q => h.run pos pins s σ H Q I (m σ H Q q)⟩
theorem dk_nil : DK X c E [] lNil := PK.imp pk_nil fun σ H Q ⟨a0, S, ρ, R, w, en, p⟩ => p _ _ w .nil
theorem dk_cons {e : Expr} {nm : Option Str} {kpos : Pos} {kws : List Keyword} {d : Den} {r : DenL} (h : DE X c E e d) (hr : DK X c E kws r) : DK X c E (⟨nm, e, kpos⟩ :: kws) (lCons d r) :=
  PK.imp (pk_cons h hr) fun σ H Q ⟨a0, S, ρ, R, w, en, p⟩ => tD_of w en (ends_next p fun x R1 p v H1 w1 r1 =>
    tDL_of w1.here (en.mono w1.sub) (ends_back w1 (ends_next p fun y R2 p => p) fun y R2 p u H2 w2 r2 => p _ _ (w1.trans w2) (.cons (r1.mono w2.sub) r2)))
def gK {α : Type} (m j : Nat) (us ws : List α) : List α := if us.length = m ∧ ws.length = j then us ++ ws else []
theorem de_callK {x : Str} {ps ks : List Str} {n m i j : Nat} {F : List PyData → Row → Res PyData} {e : Expr} {es : List Expr} {kws : List Keyword} {l k : DenL} (fn : Fn X.prog X.w X.K X.mg X.base c n x ps F) (hr : Room m X.A) (hnm : n ≤ m) (hx : Passes (L2.CX X.prog X.w) X E) (ha : DEs X c E (e :: es) l) (hkw : DK X c E kws k)
    (hl : ∀ ρ R ds R', l ρ R = .ok ds R' → ds.length = i) (hlk : ∀ ρ R ds R', k ρ R = .ok ds R' → ds.length = j) (hks0 : ks = ps.drop i) (hj : ps.length = i + j) (hj0 : j ≠ 0) (hg : Gl X x := by rfl)
    (hall : (backToKw pos (keywordEach kws X.env)).all (·.1.isSome) = true := by rfl) (hks : (backToKw pos (keywordEach kws X.env)).filterMap (·.1) = ks := by rfl)
    (hdb : (x == ("__debug__" : Str)) = false := by decide) (he : starEach (e :: es) X.env = (false, eval e X.env) :: starEach es X.env := by rfl)
    (hpl : ((backTo pos (starEach (e :: es) X.env)).any (·.1) || (backToKw pos (keywordEach kws X.env)).any (·.1.isNone)) = false := by rfl) :
    DE X c E (.Call (.Name x p) (e :: es) kws pos) (dCallF F (lApp l k)) := by
  obtain ⟨f, fd, ok, hm, hk, _, hbk⟩ := fn.ex
  have KB : KBinds X.K fd ps ks (gK i j) (gK i j) := by
    refine ⟨fun s us ws _ hl' => ?_, fun {vs us zs ws} r1 r2 => ?_⟩
    · unfold gK at hl' ⊢
      by_cases cc : us.length = i ∧ ws.length = j
      · rw [if_pos cc] at hl' ⊢
        exact .of_eq (hbk us ws ks (by rw [cc.1]; exact hks0) hl' fun z => hj0 (by rw [← cc.2, z]; rfl))
      · rw [if_neg cc] at hl'
        exact absurd ((show 0 = ps.length from hl').trans hj) (by omega)
    · unfold gK
      rw [r1.length, r2.length]
      split
      · exact r1.append r2
      · exact .nil
  refine PE.imp (pe_callK ok (hr.mono hnm) hg hm hk KB hx ha hkw hall hks hdb he hpl) fun σ H Q ⟨a0, S, ρ, R, w, en, q⟩ => ?_
  have q0 := q
  unfold dCallF lApp at q0
  cases hd : l ρ R with
  | stuck => rw [hd] at q0; exact q0.elim
  | exc nm R1 =>
    rw [hd] at q0
    refine tDL_of w en ?_
    rw [hd]
    exact q0
  | ok ds R1 =>
    rw [hd, bind_ok] at q0
    refine tDL_of w en ?_
    rw [hd]
    intro vs H1 w1 r1
    cases hd2 : k ρ R1 with
    | stuck => rw [hd2] at q0; exact q0.elim
    | exc nm R2 =>
      rw [hd2] at q0
      refine tDL_of w1.here (en.mono w1.sub) ?_
      rw [hd2]
      exact Ex.back w1 q0
    | ok es R2 =>
      rw [hd2, bind_ok, bind_ok] at q0
      refine tDL_of w1.here (en.mono w1.sub) ?_
      rw [hd2]
      intro us H2 w2 r2
      have w12 := w1.trans w2
      have l1 := hl _ _ _ _ hd
      have l2 := hlk _ _ _ _ hd2
      have e0 : gK i j vs us = vs ++ us := if_pos ⟨r1.length.trans l1, r2.length.trans l2⟩
      rw [e0]
      exact ⟨a0, S, R2, ds ++ es, by rw [List.length_append, l1, l2, hj], w2.here, (r1.mono w2.sub).append r2, ends_back w12 q0 fun d R' k v H3 w3 => k v H3 (w12.trans w3)⟩
theorem len_nil : ∀ (ρ : Env) R ds R', lNil ρ R = .ok ds R' → ds.length = 0 := fun ρ R ds R' h => by cases h; rfl
theorem len_cons {d : Den} {r : DenL} {n : Nat} (h : ∀ ρ R ds R', r ρ R = .ok ds R' → ds.length = n) : ∀ (ρ : Env) R ds R', lCons d r ρ R = .ok ds R' → ds.length = n + 1 := fun ρ R ds R' e => by
  unfold lCons at e
  cases h1 : d ρ R with
  | stuck => rw [h1] at e; cases e
  | exc nm R1 => rw [h1] at e; cases e
  | ok x R1 =>
    rw [h1, bind_ok] at e
    cases h2 : r ρ R1 with
    | stuck => rw [h2] at e; cases e
    | exc nm R1 => rw [h2] at e; cases e
    | ok xs R2 =>
      rw [h2, bind_ok] at e
      cases e
      rw [List.length_cons, h _ _ _ _ h2]
/-! ### built-ins -/
def rC (K : PySem.W.Frag) (c : Cfg) (f : List PyData → Option PyData) : List V → Hp → VK → Prop := fun xs H Q => ∃ a0 S R ds d, Wd K c a0 S H H R ∧ RepA K a0 (hide H S) xs ds ∧ f ds = some d ∧ ∀ v H', Wd K c a0 S H H' R → Rep K a0 (hide H' S) v d → Q v H'
def rCN (K : PySem.W.Frag) (c : Cfg) (f : List PyData → Option (List PyData)) : List V → Hp → VK → Prop := fun xs H Q => ∃ a0 S R ds out, Wd K c a0 S H H R ∧ RepA K a0 (hide H S) xs ds ∧ f ds = some out ∧
  ∀ p vs H', Fr H p → Wd K c a0 S H H' R → H' p = some (.lst vs) → RepA K a0 (hide H' (p :: S)) vs out → Q (.ref p) H'
def BltD (X : Cx) (c : Cfg) (f : Value) (sem : List PyData → Option PyData) : Prop := CallR X f (rC X.K c sem)
def BltN (X : Cx) (c : Cfg) (f : Value) (sem : List PyData → Option (List PyData)) : Prop := CallR X f (rCN X.K c sem)
def dBlt (f : List PyData → Option PyData) (l : DenL) : Den := fun ρ R => (l ρ R).bind fun ds R1 => ofO (f ds) R1
def nBlt (f : List PyData → Option (List PyData)) (l : DenL) : DenL := fun ρ R => (l ρ R).bind fun ds R1 => ofO (f ds) R1
theorem tCB_of {K : PySem.W.Frag} {f : List PyData → Option PyData} {l : DenL} {σ : L2.St} {H : Hp} {Q : VK} (h : tD K c E (dBlt f l) σ H Q) : tCB (rC K c f) (tDL K c E l) σ H Q := by
  obtain ⟨a0, S, ρ, R, w, en, p⟩ := h
  refine tDL_of w en (ends_next p fun ds R1 p vs H1 w1 r1 => ?_)
  obtain ⟨d, e, q⟩ := Ends.ofO p
  exact ⟨a0, S, R1, ds, d, w1.here, r1, e, fun v H2 w2 r2 => q v H2 (w1.trans w2) r2⟩
theorem tCB_ofN {K : PySem.W.Frag} {f : List PyData → Option (List PyData)} {l : DenL} {σ : L2.St} {H : Hp} {Q : VK} (h : tDN K c E (nBlt f l) σ H Q) : tCB (rCN K c f) (tDL K c E l) σ H Q := by
  obtain ⟨a0, S, ρ, R, w, en, p⟩ := h
  refine tDL_of w en (ends_next p fun ds R1 p vs H1 w1 r1 => ?_)
  obtain ⟨d, e, q⟩ := Ends.ofO p
  refine ⟨a0, S, R1, ds, d, w1.here, r1, e, fun pp vs H2 hp w2 h2 r2 => q pp vs H2 (fun o eo n => ?_) (w1.trans w2) h2 r2⟩
  by_cases ea : pp = a0
  · subst ea
    obtain ⟨sc, h1, _⟩ := w1.row
    exact hp _ h1 nt_lst
  · exact hp o (w1.gr pp o ea eo n) n
theorem de_blt {x : Str} {id : String} {f : List PyData → Option PyData} {e : Expr} {es : List Expr} {l : DenL} (hc : BltD X c (.builtin id) f) (ha : DEs X c E (e :: es) l) (hm : X.mg x = none) (hv : bootBuiltins x = some (.builtin id) := by decide +kernel) (hg : Gl X x := by rfl) (hn : x ≠ "__name__" := by decide) (hdb : (x == ("__debug__" : Str)) = false := by decide)
    (he : starEach (e :: es) X.env = (false, eval e X.env) :: starEach es X.env := by rfl) (hpl : (backTo pos (starEach es X.env)).any (·.1) = false := by rfl) :
    DE X c E (.Call (.Name x p) (e :: es) [] pos) (dBlt f l) := PE.imp (pe_callB hc hg hm hv ha hn hdb he hpl) fun _ _ _ => tCB_of
theorem de_bty {x : Str} {T : String} {f : List PyData → Option PyData} {e : Expr} {es : List Expr} {l : DenL} (hc : BltD X c (.type T) f) (ha : DEs X c E (e :: es) l) (hm : X.mg x = none) (hv : bootBuiltins x = some (.type T) := by decide +kernel) (hg : Gl X x := by rfl) (hn : x ≠ "__name__" := by decide) (hdb : (x == ("__debug__" : Str)) = false := by decide)
    (he : starEach (e :: es) X.env = (false, eval e X.env) :: starEach es X.env := by rfl) (hpl : (backTo pos (starEach es X.env)).any (·.1) = false := by rfl) :
    DE X c E (.Call (.Name x p) (e :: es) [] pos) (dBlt f l) := PE.imp (pe_callTy hc hg hm hv ha hn hdb he hpl) fun _ _ _ => tCB_of
theorem dn_blt {x : Str} {id : String} {f : List PyData → Option (List PyData)} {e : Expr} {es : List Expr} {l : DenL} (hc : BltN X c (.builtin id) f) (ha : DEs X c E (e :: es) l) (hm : X.mg x = none) (hv : bootBuiltins x = some (.builtin id) := by decide +kernel) (hg : Gl X x := by rfl) (hn : x ≠ "__name__" := by decide) (hdb : (x == ("__debug__" : Str)) = false := by decide)
    (he : starEach (e :: es) X.env = (false, eval e X.env) :: starEach es X.env := by rfl) (hpl : (backTo pos (starEach es X.env)).any (·.1) = false := by rfl) :
    DN X c E (.Call (.Name x p) (e :: es) [] pos) (nBlt f l) := PE.imp (pe_callB hc hg hm hv ha hn hdb he hpl) fun _ _ _ => tCB_ofN
theorem dn_bty {x : Str} {T : String} {f : List PyData → Option (List PyData)} {e : Expr} {es : List Expr} {l : DenL} (hc : BltN X c (.type T) f) (ha : DEs X c E (e :: es) l) (hm : X.mg x = none) (hv : bootBuiltins x = some (.type T) := by decide +kernel) (hg : Gl X x := by rfl) (hn : x ≠ "__name__" := by decide) (hdb : (x == ("__debug__" : Str)) = false := by decide)
    (he : starEach (e :: es) X.env = (false, eval e X.env) :: starEach es X.env := by rfl) (hpl : (backTo pos (starEach es X.env)).any (·.1) = false := by rfl) :
    DN X c E (.Call (.Name x p) (e :: es) [] pos) (nBlt f l) := PE.imp (pe_callTy hc hg hm hv ha hn hdb he hpl) fun _ _ _ => tCB_ofN

/-! their rules -/
theorem repA_one {K : PySem.W.Frag} {a0 : Addr} {H : Hp} {xs : List V} {d : PyData} (r : RepA K a0 H xs [d]) : ∃ v, xs = [v] ∧ Rep K a0 H v d := by
  cases r with
  | cons h r => cases r; exact ⟨_, rfl, h⟩
theorem repA_two {K : PySem.W.Frag} {a0 : Addr} {H : Hp} {xs : List V} {d e : PyData} (r : RepA K a0 H xs [d, e]) : ∃ v u, xs = [v, u] ∧ Rep K a0 H v d ∧ Rep K a0 H u e := by
  cases r with
  | cons h r => obtain ⟨u, e, q⟩ := repA_one r; subst e; exact ⟨_, _, rfl, h, q⟩
def lenD : List PyData → Option PyData
  | [.list xs] => some (.int xs.length)
  | [.tuple xs] => some (.int xs.length)
  | [.str z] => if z.length ≤ sizeLine then some (.int z.length) else none
  | [.dict ps] => if (ps.all fun p => (toKey p.1).isSome) then some (.int ps.length) else none
  | _ => none
theorem blt_len : BltD X c (.builtin "len") lenD := by
  rintro pins s σ H xs us Q I rv ⟨a0, S, R, ds, d, w, r, e, k⟩
  unfold lenD at e
  split at e
  · cases e
    obtain ⟨v, rfl, r9⟩ := repA_one r
    obtain ⟨a, vs, rfl, h, rA⟩ := r9.list_inv
    exact call_len_seq pins s σ H _ us Q I rv ⟨a, vs, rfl, .inl (.inl (.inl (of_hide h).2)), by rw [rA.length]; exact k _ _ w (.int _)⟩
  · cases e
    obtain ⟨v, rfl, r9⟩ := repA_one r
    obtain ⟨a, vs, rfl, h, rA⟩ := r9.tup_inv
    exact call_len_seq pins s σ H _ us Q I rv ⟨a, vs, rfl, .inr (.inl (.inl (of_hide h).2)), by rw [rA.length]; exact k _ _ w (.int _)⟩
  · split at e
    · cases e
      obtain ⟨v, rfl, r9⟩ := repA_one r
      have := r9.str_inv; subst v
      exact call_len_str pins s σ H _ us Q I rv ⟨_, rfl, by assumption, k _ _ w (.int _)⟩
    · cases e
  · split at e
    · rename_i hk
      cases e
      obtain ⟨v, rfl, r9⟩ := repA_one r
      obtain ⟨a, rfl, _⟩ := r9.dict_inv
      cases rv with
      | cons r1 r2 =>
        cases r2
        rename_i u
        cases (show u = Value.ref a from r1)
        obtain ⟨kvs, x, q⟩ := rdK I r9 hk
        obtain ⟨z, hd, vs, rel, dd⟩ := x
        refine call_len_dict hd dd (by rw [← rel.length]; rw [sizeLine_eq] at z; omega) ?_
        rw [← rel.length, q.length]
        exact ⟨.int _, H, I.tok _, ⟨_, rfl⟩, k _ _ w (.int _)⟩
    · cases e
  · cases e
def intD : List PyData → Option PyData
  | [.int i] => some (.int i)
  | [.bool b] => some (.int (if b then 1 else 0))
  | _ => none
theorem blt_int : BltD X c (.type "int") intD := by
  rintro pins s σ H xs us Q I rv ⟨a0, S, R, ds, d, w, r, e, k⟩
  unfold intD at e
  split at e
  · cases e
    obtain ⟨v, rfl, r9⟩ := repA_one r
    have := r9.int_inv; subst v
    exact call_int1 pins s σ H _ us Q I rv (.inl ⟨_, rfl, k _ _ w (.int _)⟩)
  · cases e
    obtain ⟨v, rfl, r9⟩ := repA_one r
    have := r9.bool_inv; subst v
    exact call_int1 pins s σ H _ us Q I rv (.inr ⟨_, rfl, k _ _ w (.int _)⟩)
  · cases e
def absD : List PyData → Option PyData
  | [.int i] => some (.int (if i < 0 then -i else i))
  | _ => none
theorem blt_abs : BltD X c (.builtin "abs") absD := by
  rintro pins s σ H xs us Q I rv ⟨a0, S, R, ds, d, w, r, e, k⟩
  unfold absD at e
  split at e
  · cases e
    obtain ⟨v, rfl, r9⟩ := repA_one r
    have := r9.int_inv; subst v
    exact call_abs pins s σ H _ us Q I rv ⟨_, rfl, k _ _ w (.int _)⟩
  · cases e
def max2D : List PyData → Option PyData
  | [.int i, .int j] => some (.int (if j > i then j else i))
  | _ => none
def min2D : List PyData → Option PyData
  | [.int i, .int j] => some (.int (if j < i then j else i))
  | _ => none
theorem blt_max2 (hc : X.calm = true) : BltD X c (.builtin "max") max2D := by
  rintro pins s σ H xs us Q I rv ⟨a0, S, R, ds, d, w, r, e, k⟩
  unfold max2D at e
  split at e
  · cases e
    obtain ⟨v, u, rfl, r1, r2⟩ := repA_two r
    have := r1.int_inv; subst v
    have := r2.int_inv; subst u
    exact call_max2 hc pins s σ H _ us Q I rv ⟨_, _, rfl, k _ _ w (.int _)⟩
  · cases e
theorem blt_min2 (hc : X.calm = true) : BltD X c (.builtin "min") min2D := by
  rintro pins s σ H xs us Q I rv ⟨a0, S, R, ds, d, w, r, e, k⟩
  unfold min2D at e
  split at e
  · cases e
    obtain ⟨v, u, rfl, r1, r2⟩ := repA_two r
    have := r1.int_inv; subst v
    have := r2.int_inv; subst u
    exact call_min2 hc pins s σ H _ us Q I rv ⟨_, _, rfl, k _ _ w (.int _)⟩
  · cases e
/-! sums, all, any over a list -/
def isInt : PyData → Bool
  | .int _ => true
  | _ => false
def intOf : PyData → Int
  | .int i => i
  | _ => 0
def isBool : PyData → Bool
  | .bool _ => true
  | _ => false
def boolOf : PyData → Bool
  | .bool b => b
  | _ => false
theorem reps_int {K : PySem.W.Frag} {a0 : Addr} {H : Hp} : ∀ {xs : List V} {ds : List PyData}, RepA K a0 H xs ds → ds.all isInt = true → xs = (ds.map intOf).map V.int
  | _, _, .nil, _ => rfl
  | _, _, .cons (d := d) h r, e => by
    rw [List.all_cons, Bool.and_eq_true] at e
    cases d <;> first | (cases e.1; done) | skip
    rw [h.int_inv, reps_int r e.2]
    rfl
theorem reps_bool {K : PySem.W.Frag} {a0 : Addr} {H : Hp} : ∀ {xs : List V} {ds : List PyData}, RepA K a0 H xs ds → ds.all isBool = true → xs = (ds.map boolOf).map V.bl
  | _, _, .nil, _ => rfl
  | _, _, .cons (d := d) h r, e => by
    rw [List.all_cons, Bool.and_eq_true] at e
    cases d <;> first | (cases e.1; done) | skip
    rw [h.bool_inv, reps_bool r e.2]
    rfl
def sumD : List PyData → Option PyData
  | [.list ds] => if ds.all isInt then some (.int (ds.map intOf).sum) else none
  | [.tuple ds] => if ds.all isInt then some (.int (ds.map intOf).sum) else none
  | _ => none
/-- sum(t) of a tuple of ints -/
theorem cr_sumT (hc : X.calm = true) : CallR X (.builtin "sum") (fun vs H Q => ∃ (a : Addr) (ns : List Int), vs = [V.ref a] ∧ SqT X.K H a (ns.map V.int) ∧ Q (.int ns.sum) H) := by
  intro pins s σ H vs us Q I r h
  obtain ⟨a, ns, rfl, hs, q⟩ := h
  obtain ⟨its, rv, hl, _⟩ := I.tuple hs
  rw [Vals.ref1 r]
  have hi := rv.ints
  obtain ⟨xs, e⟩ := hi.allInts.items
  have hn : numsOf (intItems xs).toList = ns := by rw [← e]; exact hi.numsOf
  rw [nums_intItems] at hn
  rw [e] at hl
  refine PySem.W.ktm_sumG (I.ok.hd hc) hl fun h' tk t' hk => ⟨.int ns.sum, H, I.kept hk, ⟨t', ?_⟩, q⟩
  rw [preSum_eq, List.take_of_length_le (by simp), hn]
def allD : List PyData → Option PyData
  | [.list ds] => if ds.all isBool then some (.bool (ds.all boolOf)) else none
  | _ => none
def anyD : List PyData → Option PyData
  | [.list ds] => if ds.all isBool then some (.bool (ds.any boolOf)) else none
  | _ => none
theorem blt_sum (hc : X.calm = true) : BltD X c (.builtin "sum") sumD := by
  rintro pins s σ H xs us Q I rv ⟨a0, S, R, ds, d, w, r, e, k⟩
  unfold sumD at e
  split at e
  · split at e
    · rename_i hi
      cases e
      obtain ⟨v, rfl, r9⟩ := repA_one r
      obtain ⟨a, vs, rfl, h, rA⟩ := r9.list_inv
      rw [reps_int rA hi] at h
      exact cr_sum hc pins s σ H _ us Q I rv ⟨a, _, rfl, .inl (.inl (of_hide h).2), k _ _ w (.int _)⟩
    · cases e
  · split at e
    · rename_i hi
      cases e
      obtain ⟨v, rfl, r9⟩ := repA_one r
      obtain ⟨a, vs, rfl, h, rA⟩ := r9.tup_inv
      rw [reps_int rA hi] at h
      exact cr_sumT hc pins s σ H _ us Q I rv ⟨a, _, rfl, .inl (.inl (of_hide h).2), k _ _ w (.int _)⟩
    · cases e
  · cases e
theorem blt_all (hc : X.calm = true) : BltD X c (.builtin "all") allD := by
  rintro pins s σ H xs us Q I rv ⟨a0, S, R, ds, d, w, r, e, k⟩
  unfold allD at e
  split at e
  · split at e
    · rename_i hi
      cases e
      obtain ⟨v, rfl, r9⟩ := repA_one r
      obtain ⟨a, vs, rfl, h, rA⟩ := r9.list_inv
      rw [reps_bool rA hi] at h
      refine cr_all hc pins s σ H _ us Q I rv ⟨a, _, rfl, .inl (.inl (of_hide h).2), ?_⟩
      rw [List.all_map]
      exact k _ _ w (.bl _)
    · cases e
  · cases e
theorem blt_any (hc : X.calm = true) : BltD X c (.builtin "any") anyD := by
  rintro pins s σ H xs us Q I rv ⟨a0, S, R, ds, d, w, r, e, k⟩
  unfold anyD at e
  split at e
  · split at e
    · rename_i hi
      cases e
      obtain ⟨v, rfl, r9⟩ := repA_one r
      obtain ⟨a, vs, rfl, h, rA⟩ := r9.list_inv
      rw [reps_bool rA hi] at h
      refine cr_any hc pins s σ H _ us Q I rv ⟨a, _, rfl, .inl (.inl (of_hide h).2), ?_⟩
      rw [List.any_map]
      exact k _ _ w (.bl _)
    · cases e
  · cases e
/-! tuple, list -/
def tupleD : List PyData → Option PyData
  | [.list ds] => some (.tuple ds)
  | [.tuple ds] => some (.tuple ds)
  | _ => none
theorem blt_tuple : BltD X c (.type "tuple") tupleD := by
  rintro pins s σ H xs us Q I rv ⟨a0, S, R, ds, d, w, r, e, k⟩
  unfold tupleD at e
  split at e
  · cases e
    obtain ⟨v, rfl, r9⟩ := repA_one r
    obtain ⟨a, vs, rfl, h, rA⟩ := r9.list_inv
    exact call_tuple_of pins s σ H _ us Q I rv ⟨a, vs, rfl, .inl ⟨.inl (.inl (of_hide h).2), fun l hl => k _ _ (w.new hl) (new_repT w hl rA)⟩⟩
  · cases e
    obtain ⟨v, rfl, r9⟩ := repA_one r
    obtain ⟨a, vs, rfl, h, rA⟩ := r9.tup_inv
    exact call_tuple_of pins s σ H _ us Q I rv ⟨a, vs, rfl, .inr ⟨.inl (.inl (of_hide h).2), k _ _ w (.tup h rA)⟩⟩
  · cases e
def listD : List PyData → Option (List PyData)
  | [.list ds] => some ds
  | [.tuple ds] => some ds
  | _ => none
theorem blt_list : BltN X c (.type "list") listD := by
  rintro pins s σ H xs us Q I rv ⟨a0, S, R, ds, out, w, r, e, k⟩
  unfold listD at e
  split at e
  · cases e
    obtain ⟨v, rfl, r9⟩ := repA_one r
    obtain ⟨a, vs, rfl, h, rA⟩ := r9.list_inv
    exact call_list_of pins s σ H _ us Q I rv ⟨a, vs, rfl, .inl (.inl (.inl (of_hide h).2)), fun l hl => k _ _ _ (fun o eo => by rw [hl] at eo; cases eo) (w.new hl) upd_same (rA.mono (new_sub w hl))⟩
  · cases e
    obtain ⟨v, rfl, r9⟩ := repA_one r
    obtain ⟨a, vs, rfl, h, rA⟩ := r9.tup_inv
    exact call_list_of pins s σ H _ us Q I rv ⟨a, vs, rfl, .inr (.inl (.inl (of_hide h).2)), fun l hl => k _ _ _ (fun o eo => by rw [hl] at eo; cases eo) (w.new hl) upd_same (rA.mono (new_sub w hl))⟩
  · cases e
end
end Ev

/-! Ev: isinstance, min, max, sorted, slices -/
namespace Ev
open PySem PySem.Spec PyProof.Rows L2
section
variable {X : Cx} {c : Cfg} {E : XK} {p pos : Pos}
/-! ### isinstance(x, T), T the name of a built-in class -/
def isTy : String → PyData → Option Bool
  | "int", d => some d.isInt
  | "bool", d => some d.isBool
  | "tuple", d => some d.isTuple
  | "str", d => some d.isStr
  | "list", d => some d.isList
  | _, _ => none
def isiD (T : String) (d : PyData) : Option PyData := if dataD d then (isTy T d).map PyData.bool else none
def rIsiD (K : PySem.W.Frag) (c : Cfg) (T : String) : List V → Hp → VK → Prop := fun xs H Q => ∃ a0 S R x d b, xs = [x, .ty T] ∧ Wd K c a0 S H H R ∧ Rep K a0 (hide H S) x d ∧ isiD T d = some b ∧ ∀ v, Rep K a0 (hide H S) v b → Q v H
theorem call_isiD {T : String} : CallR X (.builtin "isinstance") (rIsiD X.K c T) := by
  rintro pins s σ H xs us Q I rv ⟨a0, S, R, x, d, b, rfl, w, r, e, k⟩
  cases rv with
  | cons r1 r2 =>
    cases r2 with
    | cons r3 r4 =>
      cases r4
      cases r3
      unfold isiD at e
      split at e
      · rename_i hd
        obtain ⟨as, q⟩ := Dp.reads I _ _ _ ((r.mono hide_sub).dp hd) r1
        obtain ⟨b', e1, e2⟩ := Option.map_eq_some_iff.mp e
        subst e2
        have fin : ∀ tk, EP X pins σ Q (.bool b') { s with toks := tk } := fun tk => ⟨.bl b', H, I.tok tk, rfl, k _ (.bl _)⟩
        unfold isTy at e1
        split at e1 <;> first | (cases e1; done) | (cases e1)
        · exact PySem.W.isinstance_int_data q fun tk _ => fin tk
        · exact PySem.W.isinstance_bool_data q fun tk _ => fin tk
        · exact PySem.W.isinstance_tuple_data q fun tk _ => fin tk
        · exact PySem.W.isinstance_str_data q fun tk _ => fin tk
        · exact PySem.W.isinstance_list_data q fun tk _ => fin tk
      · cases e
theorem de_isi {T : String} {Tn : Str} {a : Expr} {da : Den} {p2 : Pos} (ha : DE X c E a da) (hm : X.mg "isinstance" = none) (hmT : X.mg Tn = none) (hvT : bootBuiltins Tn = some (.type T) := by decide +kernel) (hgT : Gl X Tn := by rfl) (hg : Gl X "isinstance" := by rfl) (hnT : Tn ≠ "__name__" := by decide) (hdT : (Tn == ("__debug__" : Str)) = false := by decide)
    (he : starEach [a, .Name Tn p2] X.env = (false, eval a X.env) :: starEach [.Name Tn p2] X.env := by rfl) (he2 : starEach [.Name Tn p2] X.env = (false, eval (.Name Tn p2) X.env) :: starEach [] X.env := by rfl) (hpl : (backTo pos (starEach [.Name Tn p2] X.env)).any (·.1) = false := by rfl) :
    DE X c E (.Call (.Name "isinstance" p) [a, .Name Tn p2] [] pos) (dUn (isiD T) da) := by
  have hT : PE X (.Name Tn p2) (tC (.ty T)) := pe_bltn hgT hmT hvT (show RelV (.ty T) (.type T) from rfl) hnT hdT
  refine PE.imp (pe_callB (call_isiD (c := c) (T := T)) hg hm (by decide +kernel) (pa_cons ha (pa_cons hT pa_nil he2) he) (by decide) (by decide) he hpl) fun σ H Q ⟨a0, S, ρ, R, w, en, p⟩ => ?_
  refine tD_of w en (ends_next p fun x R1 p v H1 w1 r1 => ?_)
  obtain ⟨d, e, q⟩ := Ends.ofO p
  exact ⟨a0, S, R1, v, x, d, rfl, w1.here, r1, e, fun z rz => q z H1 w1 rz⟩

/-! ### the least, the greatest of a list, a tuple -/
def minTy (t : Ty) : List PyData → Option PyData
  | [.list (x :: xs)] => if (x :: xs).all (hasTy t) && (x :: xs).all (shp 8) then some (PySem.W.minD x xs) else none
  | [.tuple (x :: xs)] => if (x :: xs).all (hasTy t) && (x :: xs).all (shp 8) then some (PySem.W.minD x xs) else none
  | _ => none
def maxTy (t : Ty) : List PyData → Option PyData
  | [.list (x :: xs)] => if (x :: xs).all (hasTy t) && (x :: xs).all (shp 8) then some (PySem.W.maxD x xs) else none
  | [.tuple (x :: xs)] => if (x :: xs).all (hasTy t) && (x :: xs).all (shp 8) then some (PySem.W.maxD x xs) else none
  | _ => none
theorem alikeAll_ty {t : Ty} {xs : List PyData} (h : xs.all (hasTy t) = true) : PySem.W.AlikeAll xs := by
  rw [List.all_eq_true] at h
  exact ⟨fun x hx y hy => hasTy_alike t x y (h x hx) (h y hy), fun x hx => hasTy_nn (h x hx)⟩
theorem fold_pick {α : Type} (f : α → α → Bool) : ∀ (xs : List α) (x : α), xs.foldl (fun a y => if f a y then y else a) x ∈ x :: xs
  | [], x => List.mem_cons_self
  | y :: ys, x => by
    rw [List.foldl_cons]
    have h := fold_pick f ys (if f x y then y else x)
    rcases List.mem_cons.mp h with e | h
    · rw [e]
      split
      · exact List.mem_cons_of_mem _ List.mem_cons_self
      · exact List.mem_cons_self
    · exact List.mem_cons_of_mem _ (List.mem_cons_of_mem _ h)
theorem minD_mem (x : PyData) (xs : List PyData) : PySem.W.minD x xs ∈ x :: xs := fold_pick (fun a y => PySem.W.dataLt y a) xs x
theorem maxD_mem (x : PyData) (xs : List PyData) : PySem.W.maxD x xs ∈ x :: xs := fold_pick (fun a y => PySem.W.dataLt a y) xs x
theorem readsA {I : Prop} {pins : List (Addr × Obj)} {σ : L2.St} {H : Hp} {s : Shared} {K : PySem.W.Frag} : True := True.intro
/-- an item of the list that reads as a datum is the value that stands for that datum -/
theorem pick_rep {pins : List (Addr × Obj)} {σ : L2.St} {H : Hp} {s : Shared} {a0 : Addr} {S : List Addr} {xs : List V} {ds : List PyData} {us : List Value} {h' : Heap} {i : Nat} {v : Value} {m : PyData} {bs : List Addr} (I : Inv X pins σ H s) (rA : RepA X.K a0 (hide H S) xs ds) (rv : Vals xs us)
    (hs : ds.all (shp 8) = true) (hi : us[i]? = some v) (hr : Reads h' v m bs) (hk : ∀ b o, s.heap.get? b = some o → h'.get? b = some o) : ∃ x, RelV x v ∧ Rep X.K a0 (hide H S) x m := by
  have hl := rv.length
  have hix : i < us.length := (List.getElem?_eq_some_iff.mp hi).1
  have hxi : xs[i]? = some (xs[i]'(by omega)) := List.getElem?_eq_getElem _
  obtain ⟨u, e1, e2⟩ := rv.get hxi
  rw [hi] at e1
  cases e1
  obtain ⟨d, hd, rd⟩ := rA.getV hxi
  rw [List.all_eq_true] at hs
  have sd := hs d (List.mem_of_getElem? hd)
  obtain ⟨as, q⟩ := Dp.reads I _ _ _ ((rd.mono hide_sub).dp (shp_data sd)) e2
  have e := (Reads.unique hr d as (PyProof.Rows.Reads.keeps (fun b o => hk b o) q)).1.symm
  subst e
  exact ⟨_, e2, rd⟩
theorem depth_of {n : Nat} {xs : List PyData} (h : xs.all (shp n) = true) : PyData.depthAll xs ≤ n := by
  rw [List.all_eq_true] at h
  exact depthAll_le fun x hx => (shp_facts _ _ (h x hx)).2.1
theorem dataA_of {n : Nat} {xs : List PyData} (h : xs.all (shp n) = true) : dataA xs = true := by
  rw [List.all_eq_true] at h
  exact dataAll fun x hx => shp_data (h x hx)
theorem blt_minTy {t : Ty} (hc : X.calm = true) (hu : X.A.units + 64 < cLine) : BltD X c (.builtin "min") (minTy t) := by
  rintro pins s σ H xs us Q I rv ⟨a0, S, R, ds, d, w, r, e, k⟩
  unfold minTy at e
  split at e
  · split at e
    · rename_i hs
      cases e
      rw [Bool.and_eq_true] at hs
      obtain ⟨v, rfl, r9⟩ := repA_one r
      obtain ⟨a, vs, rfl, h, rA⟩ := r9.list_inv
      obtain ⟨its, rvs, hl, _⟩ := I.list (.inl (.inl (of_hide h).2))
      obtain ⟨as, hr⟩ := Dp.readsAll I _ _ its ((rA.mono hide_sub).dp (dataA_of hs.2)) rvs
      rw [Vals.ref1 rv]
      have hd := depth_of hs.2
      refine PySem.W.min_list_data (I.ok.hd hc) hl.isList (by simpa using hr) (alikeAll_ty hs.1) (by omega) fun i u h' tk bs hi hrd hk => ?_
      obtain ⟨x, e1, e2⟩ := pick_rep I rA rvs hs.2 (by simpa using hi) hrd hk
      exact ⟨x, H, I.kept hk, e1, k _ _ w e2⟩
    · cases e
  · split at e
    · rename_i hs
      cases e
      rw [Bool.and_eq_true] at hs
      obtain ⟨v, rfl, r9⟩ := repA_one r
      obtain ⟨a, vs, rfl, h, rA⟩ := r9.tup_inv
      obtain ⟨its, rvs, hl, _⟩ := I.tuple (.inl (.inl (of_hide h).2))
      obtain ⟨as, hr⟩ := Dp.readsAll I _ _ its ((rA.mono hide_sub).dp (dataA_of hs.2)) rvs
      rw [Vals.ref1 rv]
      have hd := depth_of hs.2
      refine PySem.W.min_tuple_data (I.ok.hd hc) hl (by simpa using hr) (alikeAll_ty hs.1) (by omega) fun i u h' tk bs hi hrd hk => ?_
      obtain ⟨x, e1, e2⟩ := pick_rep I rA rvs hs.2 (by simpa using hi) hrd hk
      exact ⟨x, H, I.kept hk, e1, k _ _ w e2⟩
    · cases e
  · cases e
theorem blt_maxTy {t : Ty} (hc : X.calm = true) (hu : X.A.units + 64 < cLine) : BltD X c (.builtin "max") (maxTy t) := by
  rintro pins s σ H xs us Q I rv ⟨a0, S, R, ds, d, w, r, e, k⟩
  unfold maxTy at e
  split at e
  · split at e
    · rename_i hs
      cases e
      rw [Bool.and_eq_true] at hs
      obtain ⟨v, rfl, r9⟩ := repA_one r
      obtain ⟨a, vs, rfl, h, rA⟩ := r9.list_inv
      obtain ⟨its, rvs, hl, _⟩ := I.list (.inl (.inl (of_hide h).2))
      obtain ⟨as, hr⟩ := Dp.readsAll I _ _ its ((rA.mono hide_sub).dp (dataA_of hs.2)) rvs
      rw [Vals.ref1 rv]
      have hd := depth_of hs.2
      refine PySem.W.max_list_data (I.ok.hd hc) hl.isList (by simpa using hr) (alikeAll_ty hs.1) (by omega) fun i u h' tk bs hi hrd hk => ?_
      obtain ⟨x, e1, e2⟩ := pick_rep I rA rvs hs.2 (by simpa using hi) hrd hk
      exact ⟨x, H, I.kept hk, e1, k _ _ w e2⟩
    · cases e
  · split at e
    · rename_i hs
      cases e
      rw [Bool.and_eq_true] at hs
      obtain ⟨v, rfl, r9⟩ := repA_one r
      obtain ⟨a, vs, rfl, h, rA⟩ := r9.tup_inv
      obtain ⟨its, rvs, hl, _⟩ := I.tuple (.inl (.inl (of_hide h).2))
      obtain ⟨as, hr⟩ := Dp.readsAll I _ _ its ((rA.mono hide_sub).dp (dataA_of hs.2)) rvs
      rw [Vals.ref1 rv]
      have hd := depth_of hs.2
      refine PySem.W.max_tuple_data (I.ok.hd hc) hl (by simpa using hr) (alikeAll_ty hs.1) (by omega) fun i u h' tk bs hi hrd hk => ?_
      obtain ⟨x, e1, e2⟩ := pick_rep I rA rvs hs.2 (by simpa using hi) hrd hk
      exact ⟨x, H, I.kept hk, e1, k _ _ w e2⟩
    · cases e
  · cases e
/-! ### sorted -/
def neTup : PyData → Bool
  | .tuple (_ :: _) => true
  | _ => false
def noTup : PyData → Bool
  | .tuple _ => false
  | _ => true
/-- the order of the sort -/
def leD (a b : PyData) : Bool := !PySem.W.dataLt b a
def sortTy (t : Ty) : List PyData → Option (List PyData)
  | [.list ds] => if ds.all (hasTy t) && ds.all (shp 8) && (ds.all neTup || ds.all noTup) && decide (ds.length ≤ sizeLine) then some (ds.mergeSort leD) else none
  | _ => none
theorem each_rep {K : PySem.W.Frag} {a0 : Addr} {H : Hp} : ∀ {xs : List V} {us : List Value} {ds : List PyData}, RepA K a0 H xs ds → Vals xs us → PySem.W.EachIs (fun v d => ∃ x, RelV x v ∧ Rep K a0 H x d) us ds
  | _, _, _, .nil, .nil => .nil
  | _, _, _, .cons h r, .cons q t => .cons ⟨_, q, h⟩ (each_rep r t)
theorem of_each {K : PySem.W.Frag} {a0 : Addr} {H : Hp} {us : List Value} {ds : List PyData} (h : PySem.W.EachIs (fun v d => ∃ x, RelV x v ∧ Rep K a0 H x d) us ds) : ∃ xs, RepA K a0 H xs ds ∧ Vals xs us := by
  induction h with
  | nil => exact ⟨[], .nil, .nil⟩
  | cons h t ih =>
    obtain ⟨x, h1, h2⟩ := h
    obtain ⟨xs, r, q⟩ := ih
    exact ⟨x :: xs, .cons h2 r, .cons h1 q⟩
theorem each_reads {pins : List (Addr × Obj)} {σ : L2.St} {H : Hp} {s : Shared} {a0 : Addr} {S : List Addr} (I : Inv X pins σ H s) : ∀ {xs : List V} {us : List Value} {ds : List PyData}, RepA X.K a0 (hide H S) xs ds → Vals xs us → ds.all (shp 8) = true →
    PySem.W.EachIs (fun v d => ∃ as, Reads s.heap v (id d) as) us ds
  | _, _, _, .nil, .nil, _ => .nil
  | _, _, _, .cons h r, .cons q t, e => by
    rw [List.all_cons, Bool.and_eq_true] at e
    exact .cons (Dp.reads I _ _ _ ((h.mono hide_sub).dp (shp_data e.1)) q) (each_reads I r t e.2)
theorem leD_eq : PySem.W.dataLe false (id : PyData → PyData) = leD := rfl
theorem blt_sorted {t : Ty} (hu : X.A.units + 64 < cLine) : BltN X c (.builtin "sorted") (sortTy t) := by
  rintro pins s σ H xs us Q I rv ⟨a0, S, R, ds, d, w, r, e, k⟩
  unfold sortTy at e
  split at e
  · split at e
    · rename_i es hs
      cases e
      simp only [Bool.and_eq_true, decide_eq_true_eq] at hs
      obtain ⟨⟨⟨h1, h2⟩, h3⟩, h4⟩ := hs
      obtain ⟨v, rfl, r9⟩ := repA_one r
      obtain ⟨a, vs, rfl, h, rA⟩ := r9.list_inv
      obtain ⟨its, rvs, hl, _⟩ := I.list (.inl (.inl (of_hide h).2))
      rw [Vals.ref1 rv]
      have ha := alikeAll_ty h1
      have hd := depth_of h2
      refine PySem.W.sorted_data (enc := id) (bs := es) (R := fun v d => ∃ x, RelV x v ∧ Rep X.K a0 (hide H S) x d) hl.isList (each_rep rA rvs) (each_reads I rA rvs h2) (by rw [List.map_id]; exact fun x hx y hy => ha.1 x hx y hy) ?_ h4 (fun b hb => ?_) fun out hlen hout => ?_
      · rw [List.map_id]
        rw [Bool.or_eq_true, List.all_eq_true, List.all_eq_true] at h3
        rcases h3 with h3 | h3
        · refine .inl fun d hd => ?_
          have q := h3 d hd
          unfold neTup at q
          split at q
          · exact ⟨_, _, rfl⟩
          · cases q
        · refine .inr fun d hd => ⟨ha.2 d hd, fun xs z => ?_⟩
          have q := h3 d hd
          rw [z] at q
          cases q
      · rw [List.all_eq_true] at h2
        have q := (shp_facts _ _ (h2 b hb)).2.1
        show X.A.units + 2 + b.depth < cLine
        omega
      · rw [leD_eq] at hout
        obtain ⟨ys, q1, q2⟩ := of_each hout
        obtain ⟨ep, he'⟩ := PyProof.Rows.sortedAll_at s.heap its out.toArray
        have hp : H (s.heap.objs.size + 1) = none := I.hok.fresh (Nat.le_succ _)
        have hz : ys.length ≤ sizeLine := by rw [q2.length, hlen]; exact h4
        refine ⟨.ref _, upd H (s.heap.objs.size + 1) (.lst ys), I.laid (t' := s.toks) (fun _ _ => PyProof.Rows.sortedAll_old) (Nat.le_succ _) ⟨hz, out, ep, q2, by simpa using he'⟩, rfl, ?_⟩
        exact k _ _ _ (fun o eo => by rw [hp] at eo; cases eo) (w.new hp) upd_same (q1.mono (new_sub w hp))
    · cases e
  · cases e
/-! ### slices -/
def DO (X : Cx) (c : Cfg) (E : XK) (e : Option Expr) (den : Env → Row → Res (Option Int)) : Prop := PO X e (fun σ H Q => ∃ a0 S ρ R, Wd X.K c a0 S H H R ∧ EnvR X.K a0 (hide H S) ρ σ ∧
  Ends (den ρ R) (fun o R' => ∀ H', Wd X.K c a0 S H H' R' → Q o H') (Ex X.K c E a0 S H))
theorem PO.imp {e : Option Expr} {t t' : TO} (h : PO X e t) (m : ∀ σ H Q, t' σ H Q → t σ H Q) : PO X e t' := ⟨fun pins s σ H Q I q => h.run pins s σ H Q I (m σ H Q q)⟩
def oNone : Env → Row → Res (Option Int) := fun _ R => .ok none R
def intQ : PyData → Option Int
  | .int i => some i
  | _ => none
def oSome (d : Den) : Env → Row → Res (Option Int) := fun ρ R => (d ρ R).bind fun x R1 => ofO ((intQ x).map some) R1
theorem do_none : DO X c E none oNone := PO.imp po_none fun σ H Q ⟨a0, S, ρ, R, w, en, p⟩ => p _ w
theorem do_some {e : Expr} {d : Den} (h : DE X c E e d) : DO X c E (some e) (oSome d) := PO.imp (po_some h) fun σ H Q ⟨a0, S, ρ, R, w, en, p⟩ => tD_of w en (ends_next p fun x R1 p v H1 w1 r1 => by
  obtain ⟨o, e, q⟩ := Ends.ofO p
  obtain ⟨i, e1, e2⟩ := Option.map_eq_some_iff.mp e
  subst e2
  cases x <;> simp only [intQ, reduceCtorEq, Option.some.injEq] at e1
  subst e1
  exact ⟨_, r1.int_inv, q H1 w1⟩)
def cutL {α : Type} (xs : List α) (lo hi : Option Int) : List α := (xs.drop (HT.sIx xs.length 0 lo)).take (HT.sIx xs.length xs.length hi - HT.sIx xs.length 0 lo)
theorem RepA.cut {K : PySem.W.Frag} {a0 : Addr} {H : Hp} {xs : List V} {ds : List PyData} (r : RepA K a0 H xs ds) (lo hi : Option Int) : RepA K a0 H (cutV xs lo hi) (cutL ds lo hi) := by
  unfold cutV cutL
  rw [r.length]
  exact (r.drop _).take _
def sliceD (x : PyData) (lo hi : Option Int) : Option PyData := match x with
  | .tuple ds => some (.tuple (cutL ds lo hi))
  | .list ds => some (.list (cutL ds lo hi))
  | _ => none
def sliceN (x : PyData) (lo hi : Option Int) : Option (List PyData) := match x with
  | .list ds => some (cutL ds lo hi)
  | _ => none
def dSlice (d : Den) (l h : Env → Row → Res (Option Int)) : Den := fun ρ R => (d ρ R).bind fun x R1 => (l ρ R1).bind fun lo R2 => (h ρ R2).bind fun hi R3 => ofO (sliceD x lo hi) R3
def nSlice (d : Den) (l h : Env → Row → Res (Option Int)) : DenL := fun ρ R => (d ρ R).bind fun x R1 => (l ρ R1).bind fun lo R2 => (h ρ R2).bind fun hi R3 => ofO (sliceN x lo hi) R3
theorem cut_all {α : Type} {xs : List α} {lo hi : Option Int} (h1 : HT.sIx xs.length 0 lo = 0) (h2 : HT.sIx xs.length xs.length hi = xs.length) : cutL xs lo hi = xs := by
  unfold cutL
  rw [h1, h2, List.drop_zero, Nat.sub_zero, List.take_length]
theorem de_slice {a : Expr} {lo hi : Option Expr} {p2 : Pos} {d : Den} {l h : Env → Row → Res (Option Int)} (ha : DE X c E a d) (hl : DO X c E lo l) (hh : DO X c E hi h) : DE X c E (.Subscript a (.Slice lo hi none p2) pos) (dSlice d l h) := by
  refine PE.imp (pe_slice (SlR.or sl_list sl_tupA) ha hl hh) fun σ H Q ⟨a0, S, ρ, R, w, en, p⟩ => ?_
  refine tD_of w en (ends_next p fun x R1 p v H1 w1 r1 => ?_)
  refine ⟨a0, S, ρ, R1, w1.here, en.mono w1.sub, ends_back w1 (ends_next p fun lo R2 p => p) fun lo R2 p H2 w2 => ?_⟩
  have w12 := w1.trans w2
  refine ⟨a0, S, ρ, R2, w2.here, (en.mono w1.sub).mono w2.sub, ends_back w12 (ends_next p fun hi R3 p => p) fun hi R3 p H3 w3 => ?_⟩
  have w13 := w12.trans w3
  have r3 := (r1.mono w2.sub).mono w3.sub
  obtain ⟨d, e, q⟩ := Ends.ofO p
  unfold sliceD at e
  split at e
  · cases e
    obtain ⟨ad, xs, rfl, h1, rA⟩ := r3.tup_inv
    refine .inr ⟨ad, xs, rfl, .inl (.inl (of_hide h1).2), fun z => ?_, fun _ p hp => ?_⟩
    · rw [rA.length] at z
      rw [cut_all z.1 z.2] at q
      exact q _ _ w13 (.tup h1 rA)
    · exact q _ _ (w13.trans (w3.here.new hp)) (new_repT w3.here hp (rA.cut lo hi))
  · cases e
    obtain ⟨ad, xs, rfl, h1, rA⟩ := r3.list_inv
    exact .inl ⟨ad, xs, rfl, .inl (.inl (of_hide h1).2), fun p hp => q _ _ (w13.trans (w3.here.new hp)) (new_rep w3.here hp (rA.cut lo hi))⟩
  · cases e
theorem dn_slice {a : Expr} {lo hi : Option Expr} {p2 : Pos} {d : Den} {l h : Env → Row → Res (Option Int)} (ha : DE X c E a d) (hl : DO X c E lo l) (hh : DO X c E hi h) : DN X c E (.Subscript a (.Slice lo hi none p2) pos) (nSlice d l h) := by
  refine PE.imp (pe_slice sl_list ha hl hh) fun σ H Q ⟨a0, S, ρ, R, w, en, p⟩ => ?_
  refine tD_of w en (ends_next p fun x R1 p v H1 w1 r1 => ?_)
  refine ⟨a0, S, ρ, R1, w1.here, en.mono w1.sub, ends_back w1 (ends_next p fun lo R2 p => p) fun lo R2 p H2 w2 => ?_⟩
  have w12 := w1.trans w2
  refine ⟨a0, S, ρ, R2, w2.here, (en.mono w1.sub).mono w2.sub, ends_back w12 (ends_next p fun hi R3 p => p) fun hi R3 p H3 w3 => ?_⟩
  have w13 := w12.trans w3
  have r3 := (r1.mono w2.sub).mono w3.sub
  obtain ⟨d, e, q⟩ := Ends.ofO p
  unfold sliceN at e
  split at e
  · cases e
    obtain ⟨ad, xs, rfl, h1, rA⟩ := r3.list_inv
    exact ⟨ad, xs, rfl, .inl (.inl (of_hide h1).2), fun p hp => q _ _ _ (w13.fr hp) (w13.trans (w3.here.new hp)) upd_same ((rA.cut lo hi).mono (new_sub w3.here hp))⟩
  · cases e
/-! lists by + and * -/
def catN : PyData → PyData → Option (List PyData)
  | .list xs, .list ys => if xs.length + ys.length ≤ sizeLine then some (xs ++ ys) else none
  | _, _ => none
def repN : PyData → PyData → Option (List PyData)
  | .list xs, .int k => if -(2 ^ 63) ≤ k ∧ k < 2 ^ 63 ∧ xs.length * k.toNat ≤ sizeLine then some (List.replicate k.toNat xs).flatten else none
  | _, _ => none
def nBin (f : PyData → PyData → Option (List PyData)) (da db : Den) : DenL := fun ρ R => (da ρ R).bind fun x R1 => (db ρ R1).bind fun y R2 => ofO (f x y) R2
theorem twoN {K : PySem.W.Frag} {f : PyData → PyData → Option (List PyData)} {r : R2} (hr : ∀ a0 S R x y dx dy out H H0 (Q : VK), Wd K c a0 S H0 H R → Rep K a0 (hide H S) x dx → Rep K a0 (hide H S) y dy → f dx dy = some out →
      (∀ p vs H', Fr H0 p → Wd K c a0 S H0 H' R → H' p = some (.lst vs) → RepA K a0 (hide H' (p :: S)) vs out → Q (.ref p) H') → r x y H Q) {da db : Den} {σ : L2.St} {H : Hp} {Q : VK} (h : tDN K c E (nBin f da db) σ H Q) : tOp r (tD K c E da) (tD K c E db) σ H Q := by
  obtain ⟨a0, S, ρ, R, w, en, p⟩ := h
  refine tD_of w en (ends_next p fun x R1 p v H1 w1 r1 => ?_)
  refine tD_of w1.here (en.mono w1.sub) (ends_back w1 (ends_next p fun y R2 p => p) fun y R2 p u H2 w2 r2 => ?_)
  obtain ⟨d, e, q⟩ := Ends.ofO p
  exact hr a0 S R2 v u x y d H2 H Q (w1.trans w2) (r1.mono w2.sub) r2 e q
theorem dn_cat {a b : Expr} {da db : Den} (ha : DE X c E a da) (hb : DE X c E b db) : DN X c E (.BinOp a .Add b pos) (nBin catN da db) := by
  refine PE.imp (pe_op op_cat ha hb) fun σ H Q h => twoN (fun a0 S R x y dx dy out H H0 Q w r1 r2 e k => ?_) h
  unfold catN at e
  split at e
  · split at e
    · rename_i hl
      cases e
      obtain ⟨a, vs, rfl, q1, q2⟩ := r1.list_inv
      obtain ⟨b, us, rfl, p1, p2⟩ := r2.list_inv
      exact ⟨a, b, vs, us, rfl, rfl, (of_hide q1).2, (of_hide p1).2, by rw [q2.length, p2.length]; exact hl, fun p hp => k _ _ _ (w.fr hp) (w.trans (w.here.new hp)) upd_same ((q2.append p2).mono (new_sub w.here hp))⟩
    · cases e
  · cases e
theorem dn_rep {a b : Expr} {da db : Den} (ha : DE X c E a da) (hb : DE X c E b db) : DN X c E (.BinOp a .Mult b pos) (nBin repN da db) := by
  refine PE.imp (pe_op op_rep ha hb) fun σ H Q h => twoN (fun a0 S R x y dx dy out H H0 Q w r1 r2 e k => ?_) h
  unfold repN at e
  split at e
  · split at e
    · rename_i hl
      cases e
      obtain ⟨a, vs, rfl, q1, q2⟩ := r1.list_inv
      have := r2.int_inv; subst y
      exact ⟨a, _, vs, rfl, rfl, (of_hide q1).2, hl.1, hl.2.1, by rw [q2.length]; exact hl.2.2, fun p hp => k _ _ _ (w.fr hp) (w.trans (w.here.new hp)) upd_same ((q2.flat _).mono (new_sub w.here hp))⟩
    · cases e
  · cases e
end
end Ev

/-! Ev: what is walked; comprehensions -/
namespace Ev
open PySem PySem.Spec PyProof.Rows L2
/-- an iterator over data: S is what it may not lean on -/
def Walks (K : PySem.W.Frag) (a0 : Addr) (S : List Addr) (J : It) (H1 : Hp) (ds : List PyData) : Prop :=
  ∀ S', Walk J ds.length (fun H => Sub (hide H1 S) (hide H S') ∧ ∀ b ∈ S', H b ≠ none) (fun i H x H' => (H' = H ∨ ∃ T xs, H T = none ∧ H' = upd H T (.tup xs)) ∧ ∃ d, ds[i]? = some d ∧ Rep K a0 (hide H' S') x d)
def tDI (K : PySem.W.Frag) (c : Cfg) (E : XK) (den : DenL) : TI := fun σ H Rr => ∃ a0 S ρ R, Wd K c a0 S H H R ∧ EnvR K a0 (hide H S) ρ σ ∧
  Ends (den ρ R) (fun ds R' => ∀ J H', Wd K c a0 S H H' R' → Walks K a0 S J H' ds → Rr J H') (Ex K c E a0 S H)
def DI (X : Cx) (c : Cfg) (E : XK) (tg iter : Expr) (den : DenL) : Prop := PI X tg iter (tDI X.K c E den)
theorem PI.imp {X : Cx} {tg iter : Expr} {t t' : TI} (h : PI X tg iter t) (m : ∀ σ H Q, t' σ H Q → t σ H Q) : PI X tg iter t' := ⟨fun pins s σ H Q I q => h.run pins s σ H Q I (m σ H Q q)⟩
theorem PI.or {X : Cx} {tg iter : Expr} {t t' : TI} (h : PI X tg iter t) (h' : PI X tg iter t') : PI X tg iter (fun σ H Q => t σ H Q ∨ t' σ H Q) := ⟨fun pins s σ H Q I q => q.elim (h.run pins s σ H Q I) (h'.run pins s σ H Q I)⟩

section
variable {K : PySem.W.Frag} {c : Cfg} {E : XK} {a0 : Addr} {S : List Addr} {H : Hp} {R : Row}
theorem walks_list {a : Addr} {xs : List V} {ds : List PyData} (h : hide H S a = some (.lst xs)) (r : RepA K a0 (hide H S) xs ds) : Walks K a0 S (Itl K a) H ds := by
  intro S'
  have up : ∀ H2, (Sub (hide H S) (hide H2 S') ∧ ∀ b ∈ S', H2 b ≠ none) → SqL K H2 a xs := fun H2 s => .inl (.inl (of_hide (s.1 _ _ h nt_lst)).2)
  have wl : Walk (Itl K a) ds.length (fun H2 => SqL K H2 a xs) (YAt xs) := by rw [← r.length]; exact walk_list
  exact wl.mono up fun i H2 x H' hi s y => by
    obtain ⟨e1, e2⟩ := y
    subst e1
    obtain ⟨d, h1, h2⟩ := r.getV e2
    exact ⟨.inl rfl, d, h1, h2.mono s.1⟩
theorem walks_tup {a : Addr} {xs : List V} {ds : List PyData} (h : hide H S a = some (.tup xs)) (r : RepA K a0 (hide H S) xs ds) : Walks K a0 S (Itt K a) H ds := by
  intro S'
  have up : ∀ H2, (Sub (hide H S) (hide H2 S') ∧ ∀ b ∈ S', H2 b ≠ none) → SqT K H2 a xs := fun H2 s => .inl (.inl (of_hide (s.1 _ _ h nt_tup)).2)
  have wl : Walk (Itt K a) ds.length (fun H2 => SqT K H2 a xs) (YAt xs) := by rw [← r.length]; exact walk_tup
  exact wl.mono up fun i H2 x H' hi s y => by
    obtain ⟨e1, e2⟩ := y
    subst e1
    obtain ⟨d, h1, h2⟩ := r.getV e2
    exact ⟨.inl rfl, d, h1, h2.mono s.1⟩
def rangeL (lo : Int) (n : Nat) : List PyData := (List.range n).map fun k => .int (lo + (k : Nat))
theorem walks_range {lo : Int} {n : Nat} : Walks K a0 S (Itr lo n) H (rangeL lo n) := by
  have e : (rangeL lo n).length = n := by unfold rangeL; simp
  intro S'
  rw [e]
  exact walk_range.mono (fun _ _ => True.intro) fun i H2 x H' hi s y => by
    obtain ⟨e1, e2⟩ := y
    subst e1 e2
    exact ⟨.inl rfl, .int (lo + (i : Nat)), by simp [rangeL, hi], .int _⟩
def rangeC (lo c : Int) (n : Nat) : List PyData := (List.range n).map fun k => .int (lo + (k : Nat) * c)
theorem walks_rangeC {lo cc : Int} {n : Nat} : Walks K a0 S (Itc lo cc n) H (rangeC lo cc n) := by
  have e : (rangeC lo cc n).length = n := by unfold rangeC; simp
  intro S'
  rw [e]
  exact walk_rangeC.mono (fun _ _ => True.intro) fun i H2 x H' hi s y => by
    obtain ⟨e1, e2⟩ := y
    subst e1 e2
    exact ⟨.inl rfl, .int (lo + (i : Nat) * cc), by simp [rangeC, hi], .int _⟩
/-- a new pair over a heap in which nothing hidden is made -/
theorem pair_rep {H2 : Hp} {T : Addr} {x y : V} {d e : PyData} (hT : H2 T = none) (nT : T ∉ S) (h1 : Rep K a0 (hide H2 S) x d) (h2 : Rep K a0 (hide H2 S) y e) : Rep K a0 (hide (upd H2 T (.tup [x, y])) S) (.ref T) (.tuple [d, e]) := by
  have s : Sub (hide H2 S) (hide (upd H2 T (.tup [x, y])) S) := fun b o h _ => by
    obtain ⟨nb, h⟩ := of_hide h
    rw [hide_out nb, upd_ne (ne_of_none h hT)]
    exact h
  exact .tup (hide_upd_out nT) (.cons (h1.mono s) (.cons (h2.mono s) .nil))
end
section
variable {X : Cx} {c : Cfg} {E : XK} {tg : Expr} {p pos tpos : Pos}
def seqD : PyData → Option (List PyData)
  | .list ds => some ds
  | .tuple ds => some ds
  | _ => none
def lSeq (d : Den) : DenL := fun ρ R => (d ρ R).bind fun x R1 => ofO (seqD x) R1
theorem di_seq {e : Expr} {d : Den} (h : DE X c E e d) : DI X c E tg e (lSeq d) := by
  refine PI.imp (PI.or (pi_list h) (pi_tup h)) fun σ H Q ⟨a0, S, ρ, R, w, en, p⟩ => ?_
  unfold lSeq at p
  cases hr : d ρ R with
  | stuck =>
    rw [hr] at p
    exact p.elim
  | exc nm R1 =>
    rw [hr] at p
    refine .inl (tD_of w en ?_)
    rw [hr]
    exact p
  | ok dx R1 =>
    rw [hr, bind_ok] at p
    obtain ⟨ds, e, q⟩ := Ends.ofO p
    cases dx <;> simp only [seqD, reduceCtorEq, Option.some.injEq] at e
    · subst e
      refine .inl (tD_of w en ?_)
      rw [hr]
      intro v H1 w1 r1
      obtain ⟨a, xs, rfl, h1, rA⟩ := r1.list_inv
      exact ⟨a, rfl, ⟨xs, .inl (.inl (of_hide h1).2)⟩, q _ _ w1 (walks_list h1 rA)⟩
    · subst e
      refine .inr (tD_of w en ?_)
      rw [hr]
      intro v H1 w1 r1
      obtain ⟨a, xs, rfl, h1, rA⟩ := r1.tup_inv
      exact ⟨a, rfl, ⟨xs, .inl (.inl (of_hide h1).2)⟩, q _ _ w1 (walks_tup h1 rA)⟩
def in62 (i : Int) : Prop := -(2 ^ 62) ≤ i ∧ i < 2 ^ 62
instance (i : Int) : Decidable (in62 i) := inferInstanceAs (Decidable (_ ∧ _))
def rangeD : List PyData → Option (List PyData)
  | [.int j] => if in62 j then some (rangeL 0 j.toNat) else none
  | [.int i, .int j] => if in62 i ∧ in62 j then some (rangeL i (j - i).toNat) else none
  | [.int i, .int j, .int (-1)] => if in62 i ∧ in62 j then some (rangeC i (-1) (i - j).toNat) else none
  | _ => none
theorem di_range1 {a : Expr} {l : DenL} (ha : DEs X c E [a] l) (hm : X.mg "range" = none) (hg : Gl X "range" := by rfl) (hs : starEach [a] X.env = [(false, eval a X.env)] := by rfl) : DI X c E tg (.Call (.Name "range" p) [a] [] pos) (fun ρ R => (l ρ R).bind fun xs R1 => if xs.length = 1 then ofO (rangeD xs) R1 else .stuck) := by
  refine PI.imp (pi_range1 hg hm ha hs) fun σ H Q ⟨a0, S, ρ, R, w, en, p⟩ => tDL_of w en (ends_next p fun xs R1 p vs H1 w1 r1 => ?_)
  split at p
  · rename_i hl
    obtain ⟨ds, e, q⟩ := Ends.ofO p
    unfold rangeD at e
    split at e
    · split at e
      · rename_i hj
        cases e
        obtain ⟨v, rfl, r9⟩ := repA_one r1
        have := r9.int_inv; subst v
        exact ⟨_, rfl, hj.1, hj.2, q _ _ w1 walks_range⟩
      · cases e
    · cases hl
    · cases hl
    · cases e
  · exact p.elim
theorem repA_three {K : PySem.W.Frag} {a0 : Addr} {H : Hp} {xs : List V} {d e f : PyData} (r : RepA K a0 H xs [d, e, f]) : ∃ v u z, xs = [v, u, z] ∧ Rep K a0 H v d ∧ Rep K a0 H u e ∧ Rep K a0 H z f := by
  cases r with
  | cons h r => obtain ⟨u, z, e, q⟩ := repA_two r; subst e; exact ⟨_, _, _, rfl, h, q⟩
theorem di_range2 {a b : Expr} {l : DenL} (ha : DEs X c E [a, b] l) (hm : X.mg "range" = none) (hg : Gl X "range" := by rfl) (hs : starEach [a, b] X.env = [(false, eval a X.env), (false, eval b X.env)] := by rfl) (hs2 : starEach [b] X.env = [(false, eval b X.env)] := by rfl) :
    DI X c E tg (.Call (.Name "range" p) [a, b] [] pos) (fun ρ R => (l ρ R).bind fun xs R1 => if xs.length = 2 then ofO (rangeD xs) R1 else .stuck) := by
  refine PI.imp (pi_range2 hg hm ha hs hs2) fun σ H Q ⟨a0, S, ρ, R, w, en, p⟩ => tDL_of w en (ends_next p fun xs R1 p vs H1 w1 r1 => ?_)
  split at p
  · rename_i hl
    obtain ⟨ds, e, q⟩ := Ends.ofO p
    unfold rangeD at e
    split at e
    · cases hl
    · split at e
      · rename_i hj
        cases e
        obtain ⟨v, u, rfl, r8, r9⟩ := repA_two r1
        have := r8.int_inv; subst v
        have := r9.int_inv; subst u
        exact ⟨_, _, rfl, ⟨hj.1.1, hj.1.2, hj.2.1, hj.2.2⟩, q _ _ w1 walks_range⟩
      · cases e
    · cases hl
    · cases e
  · exact p.elim
theorem di_range3 {a b d : Expr} {l : DenL} (ha : DEs X c E [a, b, d] l) (hm : X.mg "range" = none) (hg : Gl X "range" := by rfl) (hs : starEach [a, b, d] X.env = (false, eval a X.env) :: starEach [b, d] X.env := by rfl) (hpl : (backTo pos (starEach [b, d] X.env)).any (·.1) = false := by rfl) :
    DI X c E tg (.Call (.Name "range" p) [a, b, d] [] pos) (fun ρ R => (l ρ R).bind fun xs R1 => if xs.length = 3 then ofO (rangeD xs) R1 else .stuck) := by
  refine PI.imp (pi_range3 hg hm ha hs hpl) fun σ H Q ⟨a0, S, ρ, R, w, en, p⟩ => tDL_of w en (ends_next p fun xs R1 p vs H1 w1 r1 => ?_)
  split at p
  · rename_i hl
    obtain ⟨ds, e, q⟩ := Ends.ofO p
    unfold rangeD at e
    split at e
    · cases hl
    · cases hl
    · split at e
      · rename_i hj
        cases e
        obtain ⟨v, u, z, rfl, r8, r9, r10⟩ := repA_three r1
        have := r8.int_inv; subst v
        have := r9.int_inv; subst u
        have := r10.int_inv; subst z
        exact ⟨_, _, _, _, rfl, RgC.neg hj.1.1 hj.1.2 hj.2.1 hj.2.2, q _ _ w1 walks_rangeC⟩
      · cases e
    · cases e
  · exact p.elim

/-! ### targets -/
abbrev Tgt := PyData → Env → Option Env
/-- a target stores the slots vs, no other -/
def TgtOk (vs : List Nat) (t : Tgt) : Prop := ∀ d ρ ρ', t d ρ = some ρ' → ρ'.length = ρ.length ∧ ∀ i, i ∉ vs → ρ'[i]? = ρ[i]?
/-- what a target makes: vs are the slots that it stores -/
def tG (K : PySem.W.Frag) (vs : List Nat) (t : Tgt) : TG := fun v σ H Q => ∃ a0 S ρ d ρ', ρ.length = σ.length ∧ Rep K a0 (hide H S) v d ∧ t d ρ = some ρ' ∧
  ∀ σ', σ'.length = σ.length → (∀ i, i ∉ vs → σ'[i]? = σ[i]?) → (∀ i, i ∈ vs → ∀ d', ρ'[i]? = some (some d') → ∃ v', σ'[i]? = some (some v') ∧ Rep K a0 (hide H S) v' d') → Q σ' H
structure DG (X : Cx) (tg : Expr) (vs : List Nat) (t : Tgt) : Prop where
  pg : PG X tg (tG X.K vs t)
  ok : TgtOk vs t
theorem PG.imp {X : Cx} {tg : Expr} {t t' : TG} (h : PG X tg t) (m : ∀ v σ H Q, t' v σ H Q → t v σ H Q) : PG X tg t' := ⟨fun pins s σ H v u Q I r q => h.run pins s σ H v u Q I r (m v σ H Q q)⟩
theorem PG.or {X : Cx} {tg : Expr} {t t' : TG} (h : PG X tg t) (h' : PG X tg t') : PG X tg (fun v σ H Q => t v σ H Q ∨ t' v σ H Q) := ⟨fun pins s σ H v u Q I r q => q.elim (h.run pins s σ H v u Q I r) (h'.run pins s σ H v u Q I r)⟩
theorem EnvR.tgt {K : PySem.W.Frag} {a0 : Addr} {H : Hp} {ρ ρ' : Env} {σ σ' : L2.St} {vs : List Nat} {t : Tgt} {d : PyData} (en : EnvR K a0 H ρ σ) (ok : TgtOk vs t) (e : t d ρ = some ρ') (l : σ'.length = σ.length) (k : ∀ i, i ∉ vs → σ'[i]? = σ[i]?)
    (r : ∀ i, i ∈ vs → ∀ d', ρ'[i]? = some (some d') → ∃ v', σ'[i]? = some (some v') ∧ Rep K a0 H v' d') : EnvR K a0 H ρ' σ' := by
  obtain ⟨l', k'⟩ := ok d ρ ρ' e
  refine ⟨by rw [l', l, en.1], fun i d' h => ?_⟩
  by_cases hi : i ∈ vs
  · exact r i hi d' h
  · rw [k' i hi] at h
    rw [k i hi]
    exact en.2 i d' h
def gSet (i : Nat) : Tgt := fun d ρ => some (ρ.set i (some d))
theorem dg_name (i : Nat) {x : Str} (hN : X.N.Nodup) (hi : X.N[i]? = some x := by rfl) (hx : Loc X.env.scope x := by first | exact Or.inl rfl | exact Or.inr rfl) (hf : X.fn x = true ∨ X.env.scope.names.lookup x = some .local := by first | exact .inl rfl | exact .inr rfl) : DG X (.Name x pos) [i] (gSet i) where
  pg := PG.imp (pg_name hN hi hx hf) fun v σ H Q ⟨a0, S, ρ, d, ρ', l, r, e, k⟩ => by
    cases e
    refine k _ (by rw [List.length_set]) (fun j hj => List.getElem?_set_ne fun z => hj (by rw [← z]; exact List.mem_cons_self)) fun j hj d' h => ?_
    have : j = i := by simpa using hj
    subst this
    have hlt : j < ρ.length := by
      have := (List.getElem?_eq_some_iff.mp h).1
      rwa [List.length_set] at this
    rw [List.getElem?_set_self hlt] at h
    cases h
    exact ⟨v, by rw [List.getElem?_set_self (by rw [← l]; exact hlt)], r⟩
  ok := fun d ρ ρ' e => by
    cases e
    exact ⟨by rw [List.length_set], fun j hj => List.getElem?_set_ne fun z => hj (by rw [← z]; exact List.mem_cons_self)⟩
/-- several names -/
abbrev Tgts := List PyData → Env → Option Env
def TgtsOk (vs : List Nat) (t : Tgts) : Prop := ∀ d ρ ρ', t d ρ = some ρ' → ρ'.length = ρ.length ∧ ∀ i, i ∉ vs → ρ'[i]? = ρ[i]?
def tGs (K : PySem.W.Frag) (vs : List Nat) (t : Tgts) : TGs := fun us σ H Q => ∃ a0 S ρ ds ρ', ρ.length = σ.length ∧ RepA K a0 (hide H S) us ds ∧ t ds ρ = some ρ' ∧
  ∀ σ', σ'.length = σ.length → (∀ i, i ∉ vs → σ'[i]? = σ[i]?) → (∀ i, i ∈ vs → ∀ d', ρ'[i]? = some (some d') → ∃ v', σ'[i]? = some (some v') ∧ Rep K a0 (hide H S) v' d') → Q σ' H
structure DGs (X : Cx) (ts : List Expr) (vs : List Nat) (t : Tgts) : Prop where
  pg : PGs X ts (tGs X.K vs t)
  ok : TgtsOk vs t
theorem PGs.imp {X : Cx} {tg : List Expr} {t t' : TGs} (h : PGs X tg t) (m : ∀ v σ H Q, t' v σ H Q → t v σ H Q) : PGs X tg t' := ⟨fun pins s σ H v u Q I r q => h.run pins s σ H v u Q I r (m v σ H Q q)⟩
def gsNil : Tgts := fun ds ρ => if ds.isEmpty then some ρ else none
def gsCons (t : Tgt) (u : Tgts) : Tgts := fun ds ρ => match ds with
  | d :: r => (t d ρ).bind fun ρ1 => u r ρ1
  | [] => none
theorem dgs_nil : DGs X [] [] gsNil where
  pg := PGs.imp pgs_nil fun v σ H Q ⟨a0, S, ρ, ds, ρ', l, r, e, k⟩ => by
    cases ds with
    | nil =>
      cases r
      cases e
      exact ⟨rfl, k _ rfl (fun _ _ => rfl) fun i hi => by cases hi⟩
    | cons d ds => cases e
  ok := fun d ρ ρ' e => by
    unfold gsNil at e
    split at e
    · cases e; exact ⟨rfl, fun _ _ => rfl⟩
    · cases e
theorem dgs_cons {e : Expr} {es : List Expr} {vs us : List Nat} {t : Tgt} {u : Tgts} (h1 : DG X e vs t) (h2 : DGs X es us u) (hs : (assignEach (e :: es) X.env).map (·.2) = assign e X.env :: (assignEach es X.env).map (·.2) := by rfl) : DGs X (e :: es) (vs ++ us) (gsCons t u) where
  pg := PGs.imp (pgs_cons h1.pg h2.pg hs) fun v σ H Q ⟨a0, S, ρ, ds, ρ', l, r, e, k⟩ => by
    cases r with
    | nil => cases e
    | @cons v vr d dr h r =>
      obtain ⟨ρ1, e1, e2⟩ := Option.bind_eq_some_iff.mp e
      obtain ⟨p1, p2⟩ := h1.ok _ _ _ e1
      obtain ⟨p3, p4⟩ := h2.ok _ _ _ e2
      refine ⟨v, vr, rfl, a0, S, ρ, d, ρ1, l, h, e1, fun σ1 l1 k1 r1 => ?_⟩
      refine ⟨a0, S, ρ1, dr, ρ', by rw [p1, l1, l], r, e2, fun σ2 l2 k2 r2 => k σ2 (l2.trans l1) (fun i hi => (k2 i fun z => hi (List.mem_append_right _ z)).trans (k1 i fun z => hi (List.mem_append_left _ z))) fun i hi d' h' => ?_⟩
      by_cases hu : i ∈ us
      · exact r2 i hu d' h'
      · rcases List.mem_append.mp hi with z | z
        · rw [p4 i hu] at h'
          rw [k2 i hu]
          exact r1 i z d' h'
        · exact absurd z hu
  ok := fun d ρ ρ' e => by
    cases d with
    | nil => cases e
    | cons d dr =>
      obtain ⟨ρ1, e1, e2⟩ := Option.bind_eq_some_iff.mp e
      obtain ⟨p1, p2⟩ := h1.ok _ _ _ e1
      obtain ⟨p3, p4⟩ := h2.ok _ _ _ e2
      exact ⟨p3.trans p1, fun i hi => (p4 i fun z => hi (List.mem_append_right _ z)).trans (p2 i fun z => hi (List.mem_append_left _ z))⟩
def gTupD (n : Nat) (t : Tgts) : Tgt := fun d ρ => match d with
  | .tuple ds => if ds.length = n then t ds ρ else none
  | .list ds => if ds.length = n then t ds ρ else none
  | _ => none
theorem dg_tup {es : List Expr} {k n : Nat} {vs : List Nat} {t : Tgts} (hc : X.calm = true) (h : DGs X es vs t) (hn : (assignEach es X.env).length = n := by rfl) (hst : (assignEach es X.env).findIdx? (·.1) = none := by rfl) : DG X (.Tuple es k pos) vs (gTupD n t) where
  pg := PG.imp (PG.or (pg_tup hc h.pg hn hst) (pg_lst hc h.pg hn hst)) fun v σ H Q ⟨a0, S, ρ, d, ρ', l, r, e, k⟩ => by
    unfold gTupD at e
    split at e
    · split at e
      · rename_i hl
        obtain ⟨a, xs, rfl, h1, rA⟩ := r.tup_inv
        exact .inl ⟨a, xs, rfl, .inl (.inl (of_hide h1).2), rA.length.trans hl, a0, S, ρ, _, ρ', l, rA, e, k⟩
      · cases e
    · split at e
      · rename_i hl
        obtain ⟨a, xs, rfl, h1, rA⟩ := r.list_inv
        exact .inr ⟨a, xs, rfl, .inl (.inl (of_hide h1).2), rA.length.trans hl, a0, S, ρ, _, ρ', l, rA, e, k⟩
      · cases e
    · cases e
  ok := fun d ρ ρ' e => by
    unfold gTupD at e
    split at e
    · split at e
      · exact h.ok _ _ _ e
      · cases e
    · split at e
      · exact h.ok _ _ _ e
      · cases e
    · cases e
end
end Ev

/-! Ev: comprehensions -/
namespace Ev
open PySem PySem.Spec PyProof.Rows L2
section
variable {K : PySem.W.Frag} {c : Cfg} {a0 : Addr} {S S' : List Addr} {H0 H H1 : Hp} {R R1 : Row} {D : Addr}
/-- tables stay where no table, no code object is touched -/
theorem tabs_keep {T : List (Addr × Str)} (t : LamX.Tabs T H) (k : ∀ b o, H b = some o → (∀ xs, o ≠ .lst xs) → H1 b = some o) : LamX.Tabs T H1 := fun p hp => by
  obtain ⟨ps, h1, h2, h3⟩ := t p hp
  refine ⟨ps, k _ _ h1 (fun xs z => by cases z), h2, fun pos cv hc => ?_⟩
  obtain ⟨cc, e1, e2⟩ := h3 pos cv hc
  exact ⟨cc, e1, k _ _ e2 (fun xs z => by unfold LamX.CodeO at z; cases z)⟩
theorem Wd.add (w : Wd K c a0 S H H R) {o : HO} (h : H D = some o) (n : notTbl o) : Wd K c a0 (D :: S) H H R where
  a0S := List.mem_cons_of_mem _ w.a0S
  sS := fun b hb => by
    rcases List.mem_cons.mp hb with e | hb
    · subst e; exact ⟨o, h, n⟩
    · exact w.sS b hb
  gr := w.gr
  row := w.row
  tabs := w.tabs
theorem Wd.less (w : Wd K c a0 S' H0 H R) (hs : ∀ b ∈ S, b ∈ S') (ha : a0 ∈ S) : Wd K c a0 S H0 H R where
  a0S := ha
  sS := fun b hb => w.sS b (hs b hb)
  gr := w.gr
  row := w.row
  tabs := w.tabs
/-- a list that is new since H0 is changed -/
theorem Wd.put (w : Wd K c a0 S H0 H R) (hf : Fr H0 D) {xs ys : List V} (h : H D = some (.lst xs)) (ha : D ≠ a0) : Wd K c a0 S H0 (upd H D (.lst ys)) R where
  a0S := w.a0S
  sS := w.sS
  gr := fun b o e h' n => by
    rw [upd_ne fun z => by subst z; exact hf o h' n]
    exact w.gr b o e h' n
  row := by
    obtain ⟨sc, e, f⟩ := w.row
    refine ⟨sc, by rw [upd_ne (Ne.symm ha)]; exact e, f.mono fun o u z => ?_⟩
    rw [upd_ne fun q => by subst q; rw [h] at z; cases z]
    exact z
  tabs := tabs_keep w.tabs fun b o e n => by
    rw [upd_ne fun q => by subst q; rw [h] at e; cases e; exact n _ rfl]
    exact e
theorem Wd.ne (w : Wd K c a0 S H H R) : ∀ b ∈ S, H b ≠ none := fun b hb z => by
  obtain ⟨o, e, _⟩ := w.sS b hb
  rw [z] at e
  cases e
end

def wipeE (ρ : Env) : List Nat → Env
  | [] => ρ
  | v :: vs => (wipeE ρ vs).set v none
theorem wipeE_len (ρ : Env) : ∀ vs : List Nat, (wipeE ρ vs).length = ρ.length
  | [] => rfl
  | v :: vs => by rw [wipeE, List.length_set, wipeE_len ρ vs]
theorem EnvR.wipe {K : PySem.W.Frag} {a0 : Addr} {H : Hp} {ρ : Env} {σ : L2.St} (en : EnvR K a0 H ρ σ) : ∀ vs : List Nat, EnvR K a0 H (wipeE ρ vs) (L2.wipe σ vs)
  | [] => en
  | v :: vs => by
    have ih := EnvR.wipe en vs
    refine ⟨by rw [wipeE, L2.wipe, List.length_set, List.length_set, ih.1], fun j d h => ?_⟩
    rw [wipeE] at h
    rw [L2.wipe]
    by_cases hj : v = j
    · subst hj
      by_cases hv : v < (wipeE ρ vs).length
      · rw [List.getElem?_set_self hv] at h
        cases h
      · rw [List.getElem?_eq_none (by rw [List.length_set]; omega)] at h
        cases h
    · rw [List.getElem?_set_ne hj] at h ⊢
      exact ih.2 j d h
theorem wipe_same {σ σ' : L2.St} (hl : σ'.length = σ.length) : ∀ {vs : List Nat}, (∀ i, i ∉ vs → σ'[i]? = σ[i]?) → L2.wipe σ' vs = L2.wipe σ vs := by
  intro vs h
  have len : ∀ (τ : L2.St), (L2.wipe τ vs).length = τ.length := fun τ => wipe_length τ vs
  have out : ∀ (τ : L2.St) (i : Nat), i ∉ vs → (L2.wipe τ vs)[i]? = τ[i]? := by
    clear h len
    intro τ
    induction vs with
    | nil => intro i _; rfl
    | cons v vs ih =>
      intro i hi
      rw [L2.wipe, List.getElem?_set_ne fun z => hi (by rw [z]; exact List.mem_cons_self)]
      exact ih i fun z => hi (List.mem_cons_of_mem _ z)
  have inn : ∀ (τ : L2.St) (i : Nat), i ∈ vs → i < τ.length → (L2.wipe τ vs)[i]? = some none := by
    clear h len out
    intro τ
    induction vs with
    | nil => intro i hi; cases hi
    | cons v vs ih =>
      intro i hi hl
      rw [L2.wipe]
      by_cases e : v = i
      · subst e
        rw [List.getElem?_set_self (by rw [wipe_length]; exact hl)]
      · rw [List.getElem?_set_ne e]
        rcases List.mem_cons.mp hi with z | z
        · exact absurd z.symm e
        · exact ih i z hl
  apply List.ext_getElem?
  intro i
  by_cases hi : i ∈ vs
  · by_cases hlt : i < σ.length
    · rw [inn σ' i hi (by omega), inn σ i hi hlt]
    · rw [List.getElem?_eq_none (by rw [len]; omega), List.getElem?_eq_none (by rw [len]; omega)]
  · rw [out σ' i hi, out σ i hi, h i hi]
theorem wipe_wipe (σ : L2.St) (vs : List Nat) : L2.wipe (L2.wipe σ vs) vs = L2.wipe σ vs := wipe_same (wipe_length σ vs) fun i hi => by
  induction vs with
  | nil => rfl
  | cons v vs ih =>
    rw [L2.wipe, List.getElem?_set_ne fun z => hi (by rw [z]; exact List.mem_cons_self)]
    exact ih fun z => hi (List.mem_cons_of_mem _ z)

/-! ### the turns of a comprehension -/
def compM (f : PyData → Row → Res (List PyData)) : List PyData → Row → Res (List PyData)
  | [], R => .ok [] R
  | d :: ds, R => match f d R with
    | .ok o R1 => (compM f ds R1).bind fun r R2 => .ok (o ++ r) R2
    | _ => .stuck
def bYes : DenB := fun _ R => .ok true R
def turnC (tgt : Tgt) (vs : List Nat) (tt : DenB) (elt : Den) (ρ : Env) (d : PyData) (R : Row) : Res (List PyData) := match tgt d (wipeE ρ vs) with
  | none => .stuck
  | some ρ' => (tt ρ' R).bind fun b R1 => if b then (elt ρ' R1).bind fun y R2 => .ok [y] R2 else .ok [] R1
def nComp (it : DenL) (tgt : Tgt) (vs : List Nat) (tt : DenB) (elt : Den) : DenL := fun ρ R => (it ρ R).bind fun ds R1 => (compM (turnC tgt vs tt elt ρ) ds R1).bind fun xs R2 => if xs.length ≤ sizeLine then .ok xs R2 else .stuck
def EF : XK := fun _ _ _ => False
def DTs (X : Cx) (c : Cfg) (E : XK) (ifs : List Expr) (den : DenB) : Prop := PTs X ifs (tDB X.K c E den)
theorem PTs.imp {X : Cx} {ifs : List Expr} {t t' : TT} (h : PTs X ifs t) (m : ∀ σ H Q, t' σ H Q → t σ H Q) : PTs X ifs t' := ⟨fun pins s σ H Q I q => h.run pins s σ H Q I (m σ H Q q)⟩
theorem dts_nil {X : Cx} {c : Cfg} {E : XK} : DTs X c E [] bYes := PTs.imp pts_nil fun σ H Q ⟨a0, S, ρ, R, w, en, p⟩ => p H w
theorem dts_one {X : Cx} {c : Cfg} {E : XK} {t : Expr} {d : DenB} (h : DT X c E t d) : DTs X c E [t] d := pts_one h
theorem compM_cons {f : PyData → Row → Res (List PyData)} {d : PyData} {ds : List PyData} {R : Row} {out : List PyData} {Rn : Row} (h : compM f (d :: ds) R = .ok out Rn) : ∃ o R1 r, f d R = .ok o R1 ∧ compM f ds R1 = .ok r Rn ∧ out = o ++ r := by
  unfold compM at h
  split at h
  · rename_i o R1 e
    cases h2 : compM f ds R1 with
    | ok r R2 =>
      rw [h2, bind_ok] at h
      cases h
      exact ⟨o, R1, r, e, h2, rfl⟩
    | exc nm R2 => rw [h2] at h; cases h
    | stuck => rw [h2] at h; cases h
  · cases h
section
variable {X : Cx} {c : Cfg} {E : XK} {pos : Pos}
theorem comp_go {K : PySem.W.Frag} {a0 : Addr} {S : List Addr} {J : It} {H1 : Hp} {ds out : List PyData} {ρ : Env} {σ : L2.St} {R1 Rn : Row} {tgt : Tgt} {vs : List Nat} {tt : DenB} {elt : Den} {D : Addr} {Qd : Hp → Prop}
    (tok : TgtOk vs tgt) (w : Wd K c a0 S H1 H1 R1) (en : EnvR K a0 (hide H1 S) ρ σ) (wk : Walks K a0 S J H1 ds) (hD : H1 D = none) (hm : compM (turnC tgt vs tt elt ρ) ds R1 = .ok out Rn) (hz : out.length ≤ sizeLine)
    (hd : ∀ H xs, Wd K c a0 S H1 H Rn → H D = some (.lst xs) → RepA K a0 (hide H (D :: S)) xs out → Qd H) :
    ∃ W : Nat → Nat → Hp → Prop, (∃ m, W 0 m (upd H1 D (.lst []))) ∧ ∀ i m H, W i m H →
      (J.stop i H ∧ Qd H) ∨ (J.go i H ∧ ∃ Nx : Hp → Prop, (∀ H', Nx H' → ∃ m', m' < m ∧ W (i + 1) m' H') ∧ ∀ x H', J.yld i H x H' → tG K vs tgt x (wipe σ vs) H' fun σ2 H2 => wipe σ2 vs = wipe σ vs ∧ tDB K c EF tt σ2 H2 fun b H3 =>
        if b = true then tD K c EF elt σ2 H3 fun y H4 => ∃ acc, H4 D = some (.lst acc) ∧ acc.length < sizeLine ∧ Nx (upd H4 D (.lst (acc ++ [y]))) else Nx H3) := by
  have hDa : D ≠ a0 := fun z => w.notS hD (by rw [z]; exact w.a0S)
  have hDS : D ∉ S := w.notS hD
  have hF : Fr H1 D := fun o e => by rw [hD] at e; cases e
  have subD : ∀ H R, Wd K c a0 S H1 H R → (∃ xs, H D = some (.lst xs)) → Sub (hide H1 S) (hide H (D :: S)) := fun H R w1 _ b o h n => by
    have e : b ≠ D := fun z => by
      subst z
      obtain ⟨_, h⟩ := of_hide h
      rw [hD] at h
      cases h
    obtain ⟨nb, h2⟩ := of_hide h
    rw [hide_out (by simp [e, nb])]
    exact w1.gr b o (fun z => nb (z ▸ w.a0S)) h2 n
  refine lc_it (wk (D :: S)) (fun i H => ∃ R acc rest xs, Wd K c a0 S H1 H R ∧ H D = some (.lst xs) ∧ RepA K a0 (hide H (D :: S)) xs acc ∧ compM (turnC tgt vs tt elt ρ) (ds.drop i) R = .ok rest Rn ∧ acc ++ rest = out) ?_ ?_ ?_ ?_
  · refine ⟨R1, [], out, [], w.new hD, upd_same, .nil, by rw [List.drop_zero]; exact hm, rfl⟩
  · rintro i H hi ⟨R, acc, rest, xs, w1, hx, ra, hr, ho⟩
    refine ⟨subD H R w1 ⟨xs, hx⟩, fun b hb z => ?_⟩
    rcases List.mem_cons.mp hb with e | hb
    · subst e; rw [hx] at z; cases z
    · exact w1.here.ne b hb z
  · rintro i x H H' hi ⟨R, acc, rest, xs, w1, hx, ra, hr, ho⟩ ⟨hH', d, hd1, rd⟩
    rw [List.drop_eq_getElem_cons hi] at hr
    have ed : ds[i] = d := by
      have := List.getElem?_eq_getElem hi
      rw [this] at hd1
      exact Option.some.inj hd1
    rw [ed] at hr
    obtain ⟨o, R2, r, f1, f2, f3⟩ := compM_cons hr
    -- the heap in which the item stands
    have step : Wd K c a0 S H1 H' R ∧ H' D = some (.lst xs) ∧ RepA K a0 (hide H' (D :: S)) xs acc := by
      rcases hH' with e | ⟨T, ts, hT, e⟩
      · subst e; exact ⟨w1, hx, ra⟩
      · subst e
        have nT : D ≠ T := fun z => by rw [z, hT] at hx; cases hx
        refine ⟨w1.trans (w1.here.new hT), by rw [upd_ne nT]; exact hx, ra.mono fun b u h n => ?_⟩
        obtain ⟨nb, h⟩ := of_hide h
        rw [hide_out nb, upd_ne (ne_of_none h hT)]
        exact h
    obtain ⟨w2, hx2, ra2⟩ := step
    have wD : Wd K c a0 (D :: S) H' H' R := w2.here.add hx2 nt_lst
    unfold turnC at f1
    split at f1
    · cases f1
    · rename_i ρ' ht
      have enw := (en.mono (subD H' R w2 ⟨xs, hx2⟩)).wipe vs
      refine ⟨a0, D :: S, wipeE ρ vs, d, ρ', enw.1, rd, ht, fun σ' l' k' r' => ⟨(wipe_same l' k').trans (wipe_wipe σ vs), ?_⟩⟩
      have en' := enw.tgt tok ht l' k' r'
      refine ⟨a0, D :: S, ρ', R, wD, en', ?_⟩
      cases ht2 : tt ρ' R with
      | stuck => rw [ht2] at f1; cases f1
      | exc nm R3 => rw [ht2] at f1; cases f1
      | ok b R3 =>
        rw [ht2, bind_ok] at f1
        intro H3 w3
        have w3' : Wd K c a0 S H1 H3 R3 := w2.trans (w3.less (fun b hb => List.mem_cons_of_mem _ hb) w.a0S)
        have hx3 : H3 D = some (.lst xs) := w3.gr D _ hDa hx2 nt_lst
        cases b with
        | false =>
          rw [if_neg Bool.false_ne_true] at f1 ⊢
          cases f1
          exact ⟨_, acc, r, xs, w3', hx3, ra2.mono w3.sub, f2, by rw [← ho, f3]; rfl⟩
        | true =>
          rw [if_pos rfl] at f1 ⊢
          refine ⟨a0, D :: S, ρ', R3, w3.here, en'.mono w3.sub, ?_⟩
          cases he : elt ρ' R3 with
          | stuck => rw [he] at f1; cases f1
          | exc nm R4 => rw [he] at f1; cases f1
          | ok y R4 =>
            rw [he, bind_ok] at f1
            cases f1
            intro v H4 w4 r4
            have w4' : Wd K c a0 S H1 H4 _ := w3'.trans (w4.less (fun b hb => List.mem_cons_of_mem _ hb) w.a0S)
            have hx4 : H4 D = some (.lst xs) := w4.gr D _ hDa hx3 nt_lst
            have ra4 := (ra2.mono w3.sub).mono w4.sub
            have lacc : acc.length < sizeLine := by
              have e : (acc ++ rest).length = out.length := by rw [ho]
              rw [f3] at e
              simp at e
              omega
            refine ⟨xs, hx4, by rw [ra4.length]; exact lacc, _, acc ++ [y], r, xs ++ [v], w4'.put hF hx4 hDa, upd_same, ?_, f2, by rw [← ho, f3]; simp⟩
            refine (ra4.append (.cons r4 .nil)).mono fun b u h n => ?_
            obtain ⟨nb, h⟩ := of_hide h
            rw [hide_out nb, upd_ne fun z => nb (by rw [z]; exact List.mem_cons_self)]
            exact h
  · rintro H ⟨R, acc, rest, xs, w1, hx, ra, hr, ho⟩
    rw [List.drop_length] at hr
    cases hr
    rw [List.append_nil] at ho
    subst ho
    exact hd H xs w1 hx ra
/-- what a comprehension's reading asks, from the data -/
theorem comp_reads {K : PySem.W.Frag} {it : DenL} {tgt : Tgt} {vs : List Nat} {tt : DenB} {elt : Den} {σ : L2.St} {H : Hp} {Q : VK} (tok : TgtOk vs tgt) (h : tDN K c E (nComp it tgt vs tt elt) σ H Q) : tLc (tDI K c E it) (tG K vs tgt) (tDB K c EF tt) (tD K c EF elt) vs σ H Q := by
  obtain ⟨a0, S, ρ, R, w, en, p⟩ := h
  refine ⟨a0, S, ρ, R, w, en, ends_next p fun ds R1 p J H1 w1 wk D hD => ?_⟩
  cases hm : compM (turnC tgt vs tt elt ρ) ds R1 with
  | stuck => rw [hm] at p; exact p.elim
  | exc nm R2 =>
    exfalso
    have no : ∀ (ds : List PyData) (R : Row), compM (turnC tgt vs tt elt ρ) ds R ≠ .exc nm R2 := by
      intro ds
      induction ds with
      | nil => intro R z; cases z
      | cons d ds ih =>
        intro R z
        unfold compM at z
        split at z
        · rename_i o R1 e
          cases h2 : compM (turnC tgt vs tt elt ρ) ds R1 with
          | ok r R2 => rw [h2] at z; cases z
          | exc nm' R2' => rw [h2] at z; cases z; exact ih _ h2
          | stuck => rw [h2] at z; cases z
        · cases z
    exact no _ _ hm
  | ok out Rn =>
    rw [hm, bind_ok] at p
    split at p
    · rename_i hz
      refine comp_go tok w1.here (en.mono w1.sub) wk hD hm hz fun H2 xs w2 hx ra => ?_
      exact p D xs H2 (w1.fr hD) (w1.trans w2) hx ra
    · exact p.elim
theorem dn_comp {elt tg iter : Expr} {ifs : List Expr} {scope : Scope} {own : List (Str × Nat)} {vs : List Nat} {it : DenL} {tgt : Tgt} {tt : DenB} {de : Den} (hc : X.calm = true) (hN : X.N.Nodup) (tok : TgtOk vs tgt) (hi : DI X c E tg iter it) (ok : blkC X.N X.env.scope scope own = true) (hv : own.map (·.2) = vs)
    (hg : ∀ (s : Shared) (H : Hp) (C : Addr) (cl : List (Str × Addr)) (fp : List Addr), DG (X.blk s H scope (compEnvC scope cl C X.env) fp) tg vs tgt)
    (ht : ∀ (s : Shared) (H : Hp) (C : Addr) (cl : List (Str × Addr)) (fp : List Addr), DTs (X.blk s H scope (compEnvC scope cl C X.env) fp) c EF ifs tt)
    (he : ∀ (s : Shared) (H : Hp) (C : Addr) (cl : List (Str × Addr)) (fp : List Addr), DE (X.blk s H scope (compEnvC scope cl C X.env) fp) c EF elt de) (hs : ∀ x, foldedSetIterable iter X.env x = pure x := by intro _; rfl) :
    DN X c E (.ListComp elt [⟨tg, iter, ifs, 0⟩] scope pos) (nComp it tgt vs tt de) := by
  subst hv
  exact PE.imp (pe_lc (wi := tDI X.K c E it) (g := tG X.K _ tgt) (tt := tDB X.K c EF tt) (te := tD X.K c EF de) hc hN hi (blkOk_by ok) (fun s H C cl fp => (hg s H C cl fp).pg) ht he hs) fun _ _ _ => comp_reads tok
end
end Ev

/-! Ev: comprehensions of two clauses -/
namespace Ev
open PySem PySem.Spec PyProof.Rows L2
def turnC2 (tgt : Tgt) (vs : List Nat) (tt : DenB) (it1 : DenL) (tgt1 : Tgt) (vs1 : List Nat) (tt1 : DenB) (elt : Den) (ρ : Env) (d : PyData) (R : Row) : Res (List PyData) := match tgt d (wipeE ρ vs) with
  | none => .stuck
  | some ρ' => (tt ρ' R).bind fun b R1 => if b then (it1 ρ' R1).bind fun ds1 R2 => compM (turnC tgt1 vs1 tt1 elt ρ') ds1 R2 else .ok [] R1
def nComp2 (it : DenL) (tgt : Tgt) (vs : List Nat) (tt : DenB) (it1 : DenL) (tgt1 : Tgt) (vs1 : List Nat) (tt1 : DenB) (elt : Den) : DenL := fun ρ R => (it ρ R).bind fun ds R1 => (compM (turnC2 tgt vs tt it1 tgt1 vs1 tt1 elt ρ) ds R1).bind fun xs R2 => if xs.length ≤ sizeLine then .ok xs R2 else .stuck
theorem compM_noexc {f : PyData → Row → Res (List PyData)} {nm : Str} {R2 : Row} : ∀ (ds : List PyData) (R : Row), compM f ds R ≠ .exc nm R2 := by
  intro ds
  induction ds with
  | nil => intro R z; cases z
  | cons d ds ih =>
    intro R z
    unfold compM at z
    split at z
    · rename_i o R1 e
      cases h2 : compM f ds R1 with
      | ok r R2 => rw [h2] at z; cases z
      | exc nm' R2' => rw [h2] at z; cases z; exact ih _ h2
      | stuck => rw [h2] at z; cases z
    · cases z
section
variable {X : Cx} {c : Cfg} {E : XK} {pos : Pos} {K : PySem.W.Frag} {a0 : Addr} {S : List Addr} {H1 : Hp} {D : Addr}
/-- the state of the new list: acc so far -/
def AccAt (K : PySem.W.Frag) (c : Cfg) (a0 : Addr) (S : List Addr) (D : Addr) (H1 H : Hp) (R : Row) (acc : List PyData) : Prop := ∃ xs, Wd K c a0 S H1 H R ∧ H D = some (.lst xs) ∧ RepA K a0 (hide H (D :: S)) xs acc
theorem AccAt.wD {H : Hp} {R : Row} {acc : List PyData} (h : AccAt K c a0 S D H1 H R acc) : Wd K c a0 (D :: S) H H R := by
  obtain ⟨xs, w, hx, _⟩ := h
  exact w.here.add hx nt_lst
theorem AccAt.sub {H : Hp} {R : Row} {acc : List PyData} (hD : H1 D = none) (h : AccAt K c a0 S D H1 H R acc) : Sub (hide H1 S) (hide H (D :: S)) := fun b o e n => by
  obtain ⟨xs, w1, hx, _⟩ := h
  obtain ⟨nb, h2⟩ := of_hide e
  have ne : b ≠ D := fun z => by rw [z, hD] at h2; cases h2
  rw [hide_out (by simp [ne, nb])]
  exact w1.gr b o (fun z => nb (z ▸ w1.a0S)) h2 n
theorem AccAt.ne {H : Hp} {R : Row} {acc : List PyData} (h : AccAt K c a0 S D H1 H R acc) : ∀ b ∈ D :: S, H b ≠ none := h.wD.ne
/-- evaluation within a turn -/
theorem AccAt.on {H H' : Hp} {R R' : Row} {acc : List PyData} (hDa : D ≠ a0) (h : AccAt K c a0 S D H1 H R acc) (w : Wd K c a0 (D :: S) H H' R') : AccAt K c a0 S D H1 H' R' acc := by
  obtain ⟨xs, w1, hx, ra⟩ := h
  exact ⟨xs, w1.trans (w.less (fun b hb => List.mem_cons_of_mem _ hb) w1.a0S), w.gr D _ hDa hx nt_lst, ra.mono w.sub⟩
/-- the next item has come -/
theorem AccAt.turn {H H' : Hp} {R : Row} {acc : List PyData} (h : AccAt K c a0 S D H1 H R acc) (y : H' = H ∨ ∃ T ts, H T = none ∧ H' = upd H T (.tup ts)) : AccAt K c a0 S D H1 H' R acc := by
  obtain ⟨xs, w1, hx, ra⟩ := h
  rcases y with e | ⟨T, ts, hT, e⟩
  · subst e; exact ⟨xs, w1, hx, ra⟩
  · subst e
    have nT : D ≠ T := fun z => by rw [z, hT] at hx; cases hx
    refine ⟨xs, w1.trans (w1.here.new hT), by rw [upd_ne nT]; exact hx, ra.mono fun b u h n => ?_⟩
    obtain ⟨nb, h⟩ := of_hide h
    rw [hide_out nb, upd_ne (ne_of_none h hT)]
    exact h
/-- one more item -/
theorem AccAt.more {H : Hp} {R : Row} {acc : List PyData} {v : V} {y : PyData} (hD : H1 D = none) (hDa : D ≠ a0) (h : AccAt K c a0 S D H1 H R acc) (r : Rep K a0 (hide H (D :: S)) v y) : ∃ xs, H D = some (.lst xs) ∧ xs.length = acc.length ∧ AccAt K c a0 S D H1 (upd H D (.lst (xs ++ [v]))) R (acc ++ [y]) := by
  obtain ⟨xs, w1, hx, ra⟩ := h
  refine ⟨xs, hx, ra.length, xs ++ [v], w1.put (fun o e => by rw [hD] at e; cases e) hx hDa, upd_same, ?_⟩
  refine (ra.append (.cons r .nil)).mono fun b u h n => ?_
  obtain ⟨nb, h⟩ := of_hide h
  rw [hide_out nb, upd_ne fun z => nb (by rw [z]; exact List.mem_cons_self)]
  exact h
theorem comp2_reads {it : DenL} {tgt : Tgt} {vs : List Nat} {tt : DenB} {it1 : DenL} {tgt1 : Tgt} {vs1 : List Nat} {tt1 : DenB} {elt : Den} {σ : L2.St} {H : Hp} {Q : VK} (tok : TgtOk vs tgt) (tok1 : TgtOk vs1 tgt1) (h : tDN K c E (nComp2 it tgt vs tt it1 tgt1 vs1 tt1 elt) σ H Q) :
    tLc2 (tDI K c E it) (tG K vs tgt) (tDB K c EF tt) (tDI K c EF it1) (tG K vs1 tgt1) (tDB K c EF tt1) (tD K c EF elt) vs vs1 σ H Q := by
  obtain ⟨a0, S, ρ, R, w, en, p⟩ := h
  refine ⟨a0, S, ρ, R, w, en, ends_next p fun ds R1 p J H1 w1 wk D hD => ?_⟩
  cases hm : compM (turnC2 tgt vs tt it1 tgt1 vs1 tt1 elt ρ) ds R1 with
  | stuck => rw [hm] at p; exact p.elim
  | exc nm R2 => exact (compM_noexc _ _ hm).elim
  | ok out Rn =>
  rw [hm, bind_ok] at p
  split at p
  case isFalse => exact p.elim
  rename_i hz
  have hDa : D ≠ a0 := fun z => w1.here.notS hD (by rw [z]; exact w1.a0S)
  have en1 := en.mono w1.sub
  refine ⟨fun i m H => m = ds.length - i ∧ i ≤ ds.length ∧ ∃ R acc rest, AccAt K c a0 S D H1 H R acc ∧ compM (turnC2 tgt vs tt it1 tgt1 vs1 tt1 elt ρ) (ds.drop i) R = .ok rest Rn ∧ acc ++ rest = out, ⟨ds.length, by simp, Nat.zero_le _, R1, [], out, ⟨[], w1.here.new hD, upd_same, .nil⟩, by rw [List.drop_zero]; exact hm, rfl⟩, ?_⟩
  rintro i m H ⟨rfl, hi, R, acc, rest, ha, hr, ho⟩
  have wki := wk (D :: S)
  have hG := And.intro (ha.sub hD) ha.ne
  by_cases hlt : i < ds.length
  case neg =>
    have e : i = ds.length := by omega
    subst e
    rw [List.drop_length] at hr
    cases hr
    rw [List.append_nil] at ho
    subst ho
    obtain ⟨xs, w2, hx, ra⟩ := ha
    exact .inl ⟨wki.stops H hG, p D xs H (w1.fr hD) (w1.trans w2) hx ra⟩
  rw [List.drop_eq_getElem_cons hlt] at hr
  obtain ⟨o, R2, r, f1, f2, f3⟩ := compM_cons hr
  refine .inr ⟨wki.goes i H hlt hG, fun H' => AccAt K c a0 S D H1 H' R2 (acc ++ o), fun H' h' => ⟨ds.length - (i + 1), by omega, rfl, hlt, R2, acc ++ o, r, h', f2, by rw [← ho, f3, List.append_assoc]⟩, fun x H' y => ?_⟩
  obtain ⟨hH', d, hd1, rd⟩ := wki.yields i H x H' hlt hG y
  have ed : ds[i] = d := by
    have := List.getElem?_eq_getElem hlt
    rw [this] at hd1
    exact Option.some.inj hd1
  rw [ed] at f1
  have ha2 := ha.turn hH'
  unfold turnC2 at f1
  split at f1
  · cases f1
  rename_i ρ' ht
  have enw := (en1.mono (ha2.sub hD)).wipe vs
  refine ⟨a0, D :: S, wipeE ρ vs, d, ρ', enw.1, rd, ht, fun σ' l' k' r' => ⟨(wipe_same l' k').trans (wipe_wipe σ vs), ?_⟩⟩
  have en' := enw.tgt tok ht l' k' r'
  refine ⟨a0, D :: S, ρ', R, ha2.wD, en', ?_⟩
  cases ht2 : tt ρ' R with
  | stuck => rw [ht2] at f1; cases f1
  | exc nm R3 => rw [ht2] at f1; cases f1
  | ok b R3 =>
  rw [ht2, bind_ok] at f1
  intro H3 w3
  have ha3 := ha2.on hDa w3
  have en3 := en'.mono w3.sub
  cases b with
  | false =>
    rw [if_neg Bool.false_ne_true] at f1 ⊢
    cases f1
    rw [List.append_nil]
    exact ha3
  | true =>
  rw [if_pos rfl] at f1 ⊢
  refine ⟨a0, D :: S, ρ', R3, ha3.wD, en3, ?_⟩
  cases hi1 : it1 ρ' R3 with
  | stuck => rw [hi1] at f1; cases f1
  | exc nm R4 => rw [hi1] at f1; cases f1
  | ok ds1 R4 =>
  rw [hi1, bind_ok] at f1
  intro J1 H4 w4 wk1
  have ha4 := ha3.on hDa w4
  have en4 := en3.mono w4.sub
  have wk1 := wk1 (D :: S)
  refine ⟨fun j m H => m = ds1.length - j ∧ j ≤ ds1.length ∧ Sub (hide H4 (D :: S)) (hide H (D :: S)) ∧ ∃ R ac1 rest1, AccAt K c a0 S D H1 H R (acc ++ ac1) ∧ compM (turnC tgt1 vs1 tt1 elt ρ') (ds1.drop j) R = .ok rest1 R2 ∧ ac1 ++ rest1 = o,
    ⟨ds1.length, by simp, Nat.zero_le _, Sub.refl _, R4, [], o, by rw [List.append_nil]; exact ha4, by rw [List.drop_zero]; exact f1, rfl⟩, ?_⟩
  rintro j k H5 ⟨rfl, hj, s5, R5, ac1, rest1, ha5, hr1, ho1⟩
  have hG1 := And.intro s5 ha5.ne
  by_cases hlt1 : j < ds1.length
  case neg =>
    have e : j = ds1.length := by omega
    subst e
    rw [List.drop_length] at hr1
    cases hr1
    rw [List.append_nil] at ho1
    subst ho1
    exact .inl ⟨wk1.stops H5 hG1, ha5⟩
  rw [List.drop_eq_getElem_cons hlt1] at hr1
  obtain ⟨o1, R6, r1, g1, g2, g3⟩ := compM_cons hr1
  refine .inr ⟨wk1.goes j H5 hlt1 hG1, fun H' => Sub (hide H4 (D :: S)) (hide H' (D :: S)) ∧ AccAt K c a0 S D H1 H' R6 (acc ++ (ac1 ++ o1)), fun H' h' => ⟨ds1.length - (j + 1), by omega, rfl, hlt1, h'.1, R6, ac1 ++ o1, r1, h'.2, g2, by rw [← ho1, g3, List.append_assoc]⟩, fun x1 H6 y1 => ?_⟩
  obtain ⟨hH6, d1, hd2, rd1⟩ := wk1.yields j H5 x1 H6 hlt1 hG1 y1
  have ed1 : ds1[j] = d1 := by
    have := List.getElem?_eq_getElem hlt1
    rw [this] at hd2
    exact Option.some.inj hd2
  rw [ed1] at g1
  have ha6 := ha5.turn hH6
  have s6 : Sub (hide H4 (D :: S)) (hide H6 (D :: S)) := s5.trans (by
    rcases hH6 with e | ⟨T, ts, hT, e⟩
    · subst e; exact Sub.refl _
    · subst e
      exact fun b u h n => by
        obtain ⟨nb, h⟩ := of_hide h
        rw [hide_out nb, upd_ne (ne_of_none h hT)]
        exact h)
  unfold turnC at g1
  split at g1
  · cases g1
  rename_i ρ'' ht1
  have enw1 := (en4.mono s6).wipe vs1
  refine ⟨a0, D :: S, wipeE ρ' vs1, d1, ρ'', enw1.1, rd1, ht1, fun σ'' l'' k'' r'' => ⟨(wipe_same l'' k'').trans (wipe_wipe σ' vs1), ?_⟩⟩
  have en'' := enw1.tgt tok1 ht1 l'' k'' r''
  refine ⟨a0, D :: S, ρ'', R5, ha6.wD, en'', ?_⟩
  cases ht3 : tt1 ρ'' R5 with
  | stuck => rw [ht3] at g1; cases g1
  | exc nm R7 => rw [ht3] at g1; cases g1
  | ok b1 R7 =>
  rw [ht3, bind_ok] at g1
  intro H7 w7
  have ha7 := ha6.on hDa w7
  cases b1 with
  | false =>
    rw [if_neg Bool.false_ne_true] at g1 ⊢
    cases g1
    rw [List.append_nil]
    exact ⟨s6.trans w7.sub, ha7⟩
  | true =>
  rw [if_pos rfl] at g1 ⊢
  refine ⟨a0, D :: S, ρ'', R7, ha7.wD, en''.mono w7.sub, ?_⟩
  cases he : elt ρ'' R7 with
  | stuck => rw [he] at g1; cases g1
  | exc nm R8 => rw [he] at g1; cases g1
  | ok z R8 =>
  rw [he, bind_ok] at g1
  cases g1
  intro v H8 w8 r8
  obtain ⟨xs, hx8, lx, ha9⟩ := (ha7.on hDa w8).more hD hDa r8
  refine ⟨xs, hx8, ?_, ?_, by rw [← List.append_assoc]; exact ha9⟩
  · have e : (acc ++ rest).length = out.length := by rw [ho]
    have e1 : (ac1 ++ rest1).length = o.length := by rw [ho1]
    rw [f3] at e
    rw [g3] at e1
    simp at e e1
    rw [lx, List.length_append]
    omega
  · refine (s6.trans w7.sub).trans (w8.sub.trans fun b u h n => ?_)
    obtain ⟨nb, h⟩ := of_hide h
    rw [hide_out nb, upd_ne fun z => nb (by rw [z]; exact List.mem_cons_self)]
    exact h
theorem dn_comp2 {elt tg iter tg1 iter1 : Expr} {ifs ifs1 : List Expr} {scope : Scope} {own : List (Str × Nat)} {vs vs1 : List Nat} {it it1 : DenL} {tgt tgt1 : Tgt} {tt tt1 : DenB} {de : Den} (hc : X.calm = true) (hN : X.N.Nodup) (tok : TgtOk vs tgt) (tok1 : TgtOk vs1 tgt1) (hi : DI X c E tg iter it) (ok : blkC X.N X.env.scope scope own = true) (hv : own.map (·.2) = vs) (hv1 : ∀ i ∈ vs1, i ∈ vs)
    (hg : ∀ (s : Shared) (H : Hp) (C : Addr) (cl : List (Str × Addr)) (fp : List Addr), DG (X.blk s H scope (compEnvC scope cl C X.env) fp) tg vs tgt)
    (ht : ∀ (s : Shared) (H : Hp) (C : Addr) (cl : List (Str × Addr)) (fp : List Addr), DTs (X.blk s H scope (compEnvC scope cl C X.env) fp) c EF ifs tt)
    (hi1 : ∀ (s : Shared) (H : Hp) (C : Addr) (cl : List (Str × Addr)) (fp : List Addr), DI (X.blk s H scope (compEnvC scope cl C X.env) fp) c EF tg1 iter1 it1)
    (hg1 : ∀ (s : Shared) (H : Hp) (C : Addr) (cl : List (Str × Addr)) (fp : List Addr), DG (X.blk s H scope (compEnvC scope cl C X.env) fp) tg1 vs1 tgt1)
    (ht1 : ∀ (s : Shared) (H : Hp) (C : Addr) (cl : List (Str × Addr)) (fp : List Addr), DTs (X.blk s H scope (compEnvC scope cl C X.env) fp) c EF ifs1 tt1)
    (he : ∀ (s : Shared) (H : Hp) (C : Addr) (cl : List (Str × Addr)) (fp : List Addr), DE (X.blk s H scope (compEnvC scope cl C X.env) fp) c EF elt de) (hs : ∀ x, foldedSetIterable iter X.env x = pure x := by intro _; rfl) (hs1 : ∀ env x, foldedSetIterable iter1 env x = pure x := by intro _ _; rfl) :
    DN X c E (.ListComp elt [⟨tg, iter, ifs, 0⟩, ⟨tg1, iter1, ifs1, 0⟩] scope pos) (nComp2 it tgt vs tt it1 tgt1 vs1 tt1 de) := by
  subst hv
  exact PE.imp (pe_lc2 (wi := tDI X.K c E it) (g := tG X.K _ tgt) (tt := tDB X.K c EF tt) (wi1 := tDI X.K c EF it1) (g1 := tG X.K vs1 tgt1) (tt1 := tDB X.K c EF tt1) (te := tD X.K c EF de) hc hN hi (blkOk_by ok) hv1 (fun s H C cl fp => (hg s H C cl fp).pg) ht hi1 (fun s H C cl fp => (hg1 s H C cl fp).pg) ht1 he hs hs1) fun _ _ _ => comp2_reads tok tok1
end
end Ev

/-! Ev: statements: the state with what is owned -/
namespace Ev
open PySem PySem.Spec PyProof.Rows L2
theorem tok_name (i : Nat) : TgtOk [i] (gSet i) := fun d ρ ρ' e => by
  cases e
  exact ⟨by rw [List.length_set], fun j hj => List.getElem?_set_ne fun z => hj (by rw [← z]; exact List.mem_cons_self)⟩
theorem toks_nil : TgtsOk [] gsNil := fun d ρ ρ' e => by
  unfold gsNil at e
  split at e
  · cases e; exact ⟨rfl, fun _ _ => rfl⟩
  · cases e
theorem toks_cons {vs us : List Nat} {t : Tgt} {u : Tgts} (h1 : TgtOk vs t) (h2 : TgtsOk us u) : TgtsOk (vs ++ us) (gsCons t u) := fun d ρ ρ' e => by
  cases d with
  | nil => cases e
  | cons d dr =>
    obtain ⟨ρ1, e1, e2⟩ := Option.bind_eq_some_iff.mp e
    obtain ⟨p1, p2⟩ := h1 _ _ _ e1
    obtain ⟨p3, p4⟩ := h2 _ _ _ e2
    exact ⟨p3.trans p1, fun i hi => (p4 i fun z => hi (List.mem_append_right _ z)).trans (p2 i fun z => hi (List.mem_append_left _ z))⟩
theorem tok_tup {n : Nat} {vs : List Nat} {t : Tgts} (h : TgtsOk vs t) : TgtOk vs (gTupD n t) := fun d ρ ρ' e => by
  unfold gTupD at e
  split at e
  · split at e
    · exact h _ _ _ e
    · cases e
  · split at e
    · exact h _ _ _ e
    · cases e
  · cases e

/-- the object that a slot owns -/
def OwnAt (K : PySem.W.Frag) (a0 : Addr) (Hh H : Hp) (a : Addr) : PyData → Prop
  | .list ds => ∃ xs, H a = some (.lst xs) ∧ RepA K a0 Hh xs ds
  | .dict ps => (∃ kvs, H a = some (.dK kvs) ∧ RepK K a0 Hh kvs ps) ∨ ∃ kvs, H a = some (.dT kvs) ∧ RepT K a0 Hh kvs ps
  | _ => False
/-- the state: A tells which slot owns which object -/
structure StA (K : PySem.W.Frag) (c : Cfg) (a0 : Addr) (S : List Addr) (H0 Vi : Hp) (A : List (Nat × Addr)) (ρ : Env) (R : Row) (σ : L2.St) (H : Hp) : Prop where
  w : Wd K c a0 S H0 H R
  nd1 : (A.map (·.1)).Nodup
  nd2 : (A.map (·.2)).Nodup
  own : ∀ p ∈ A, Fr H0 p.2 ∧ σ[p.1]? = some (some (.ref p.2)) ∧ ∃ d, ρ[p.1]? = some (some d) ∧ OwnAt K a0 (hide H (A.map (·.2) ++ S)) H p.2 d
  len : ρ.length = σ.length
  rest : ∀ i d, ρ[i]? = some (some d) → i ∉ A.map (·.1) → ∃ v, σ[i]? = some (some v) ∧ Rep K a0 (hide H (A.map (·.2) ++ S)) v d
  vis : Sub Vi (hide H (A.map (·.2) ++ S))
def StOk (K : PySem.W.Frag) (c : Cfg) (a0 : Addr) (S : List Addr) (H0 Vi : Hp) (O : List Nat) (ρ : Env) (R : Row) (σ : L2.St) (H : Hp) : Prop :=
  ∃ A, StA K c a0 S H0 Vi A ρ R σ H ∧ (∀ i ∈ O, ∀ d, ρ[i]? = some (some d) → i ∈ A.map (·.1)) ∧ ∀ i ∈ A.map (·.1), i ∈ O
section
variable {K : PySem.W.Frag} {c : Cfg} {a0 : Addr} {S : List Addr} {H0 Vi H H' : Hp} {A : List (Nat × Addr)} {O O' : List Nat} {ρ : Env} {R R' : Row} {σ : L2.St}
theorem OwnAt.obj {Hh : Hp} {a : Addr} {d : PyData} (h : OwnAt K a0 Hh H a d) : ∃ o, H a = some o ∧ notTbl o ∧ (∀ xs, o ≠ .tup xs) ∧ (∀ ob u, o ≠ .frz ob u) ∧ (∀ φ, o ≠ .ext φ) := by
  cases d with
  | list ds => obtain ⟨xs, h, _⟩ := h; exact ⟨_, h, nt_lst, (fun _ z => by cases z), (fun _ _ z => by cases z), (fun _ z => by cases z)⟩
  | dict ps =>
    rcases h with ⟨xs, h, _⟩ | ⟨xs, h, _⟩
    · exact ⟨_, h, nt_dK, (fun _ z => by cases z), (fun _ _ z => by cases z), (fun _ z => by cases z)⟩
    · exact ⟨_, h, nt_dT, (fun _ z => by cases z), (fun _ _ z => by cases z), (fun _ z => by cases z)⟩
  | _ => exact h.elim
theorem OwnAt.rep {Hh : Hp} {a : Addr} {d : PyData} (h : OwnAt K a0 Hh H a d) {Hv : Hp} (s : Sub Hh Hv) (e : ∀ o, H a = some o → Hv a = some o) : Rep K a0 Hv (.ref a) d := by
  cases d with
  | list ds => obtain ⟨xs, h, r⟩ := h; exact .lst (e _ h) (r.mono s)
  | dict ps =>
    rcases h with ⟨xs, h, r⟩ | ⟨xs, h, r⟩
    · exact .dK (.inl (e _ h)) (r.mono s)
    · exact .dT (.inl (e _ h)) (r.mono s)
  | _ => exact h.elim
theorem OwnAt.mono {Hh Hv : Hp} {a : Addr} {d : PyData} (h : OwnAt K a0 Hh H a d) (s : Sub Hh Hv) (e : ∀ o, H a = some o → notTbl o → H' a = some o) : OwnAt K a0 Hv H' a d := by
  cases d with
  | list ds => obtain ⟨xs, h, r⟩ := h; exact ⟨xs, e _ h nt_lst, r.mono s⟩
  | dict ps =>
    rcases h with ⟨xs, h, r⟩ | ⟨xs, h, r⟩
    · exact .inl ⟨xs, e _ h nt_dK, r.mono s⟩
    · exact .inr ⟨xs, e _ h nt_dT, r.mono s⟩
  | _ => exact h.elim
theorem StA.notS (st : StA K c a0 S H0 Vi A ρ R σ H) {p : Nat × Addr} (hp : p ∈ A) : p.2 ∉ S := fun z => by
  obtain ⟨o, e, n⟩ := st.w.sS _ z
  exact (st.own p hp).1 o e n
theorem StA.as (st : StA K c a0 S H0 Vi A ρ R σ H) : ∀ b ∈ A.map (·.2), ∃ o, H b = some o ∧ notTbl o ∧ (∀ xs, o ≠ .tup xs) ∧ (∀ ob u, o ≠ .frz ob u) ∧ (∀ φ, o ≠ .ext φ) := fun b hb => by
  obtain ⟨p, hp, rfl⟩ := List.mem_map.mp hb
  obtain ⟨_, _, d, _, h⟩ := st.own p hp
  exact h.obj
/-- the world in which what is owned is hidden, too -/
theorem StA.wdA (st : StA K c a0 S H0 Vi A ρ R σ H) : Wd K c a0 (A.map (·.2) ++ S) H H R where
  a0S := List.mem_append_right _ st.w.a0S
  sS := fun b hb => by
    rcases List.mem_append.mp hb with hb | hb
    · obtain ⟨o, h, n, _⟩ := st.as b hb
      exact ⟨o, h, n⟩
    · exact st.w.here.sS b hb
  gr := fun _ _ _ h _ => h
  row := st.w.row
  tabs := st.w.tabs
theorem StA.env (st : StA K c a0 S H0 Vi A ρ R σ H) : EnvR K a0 (hide H S) ρ σ := by
  refine ⟨st.len, fun i d h => ?_⟩
  by_cases hi : i ∈ A.map (·.1)
  · obtain ⟨p, hp, rfl⟩ := List.mem_map.mp hi
    obtain ⟨_, e1, d', e2, ho⟩ := st.own p hp
    rw [h] at e2
    cases e2
    exact ⟨_, e1, ho.rep (hide_more fun b hb => List.mem_append_right _ hb) fun o e => by rw [hide_out (st.notS hp)]; exact e⟩
  · obtain ⟨v, e, r⟩ := st.rest i d h hi
    exact ⟨v, e, r.mono (hide_more fun b hb => List.mem_append_right _ hb)⟩
/-- the environment without what is owned -/
theorem StA.envM (st : StA K c a0 S H0 Vi A ρ R σ H) {ks : List Nat} (hk : ∀ i ∈ A.map (·.1), i ∈ ks) : EnvR K a0 (hide H (A.map (·.2) ++ S)) (wipeE ρ ks) σ := by
  refine ⟨by rw [wipeE_len]; exact st.len, fun i d h => ?_⟩
  have out : ∀ (ks : List Nat), (wipeE ρ ks)[i]? = some (some d) → ρ[i]? = some (some d) ∧ i ∉ ks := by
    intro ks
    induction ks with
    | nil => intro h; exact ⟨h, by simp⟩
    | cons v vs ih =>
      intro h
      rw [wipeE] at h
      by_cases e : v = i
      · subst e
        by_cases hv : v < (wipeE ρ vs).length
        · rw [List.getElem?_set_self hv] at h; cases h
        · rw [List.getElem?_eq_none (by rw [List.length_set]; omega)] at h; cases h
      · rw [List.getElem?_set_ne e] at h
        obtain ⟨h1, h2⟩ := ih h
        exact ⟨h1, by simp [h2, Ne.symm e]⟩
  obtain ⟨h1, h2⟩ := out ks h
  exact st.rest i d h1 fun z => h2 (hk i z)
/-- the world has gone on -/
theorem StA.on (st : StA K c a0 S H0 Vi A ρ R σ H) (w1 : Wd K c a0 S H H' R') : StA K c a0 S H0 Vi A ρ R' σ H' := by
  have sub : Sub (hide H (A.map (·.2) ++ S)) (hide H' (A.map (·.2) ++ S)) := fun b o h n => by
    obtain ⟨nb, h⟩ := of_hide h
    rw [hide_out nb]
    exact w1.gr b o (fun z => nb (by rw [z]; exact List.mem_append_right _ st.w.a0S)) h n
  refine ⟨st.w.trans w1, st.nd1, st.nd2, fun p hp => ?_, st.len, fun i d h hi => ?_, st.vis.trans sub⟩
  · obtain ⟨f, e1, d, e2, ho⟩ := st.own p hp
    refine ⟨f, e1, d, e2, ho.mono sub fun o e n => w1.gr p.2 o (fun z => st.notS hp (by rw [z]; exact st.w.a0S)) e n⟩
  · obtain ⟨v, e, r⟩ := st.rest i d h hi
    exact ⟨v, e, r.mono sub⟩
/-- what is owned is given up -/
theorem StA.drop (st : StA K c a0 S H0 Vi A ρ R σ H) (q : Nat × Addr → Bool) : StA K c a0 S H0 Vi (A.filter q) ρ R σ H := by
  have sb : ∀ p ∈ A.filter q, p ∈ A := fun p hp => (List.mem_filter.mp hp).1
  have sub : Sub (hide H (A.map (·.2) ++ S)) (hide H ((A.filter q).map (·.2) ++ S)) := hide_more fun b hb => by
    rcases List.mem_append.mp hb with hb | hb
    · obtain ⟨p, hp, rfl⟩ := List.mem_map.mp hb
      exact List.mem_append_left _ (List.mem_map.mpr ⟨p, sb p hp, rfl⟩)
    · exact List.mem_append_right _ hb
  refine ⟨st.w, (List.filter_sublist.map _).nodup st.nd1, (List.filter_sublist.map _).nodup st.nd2, fun p hp => ?_, st.len, fun i d h hi => ?_, st.vis.trans sub⟩
  · obtain ⟨f, e1, d, e2, ho⟩ := st.own p (sb p hp)
    exact ⟨f, e1, d, e2, ho.mono sub fun o e _ => e⟩
  · by_cases hi2 : i ∈ A.map (·.1)
    · obtain ⟨p, hp, rfl⟩ := List.mem_map.mp hi2
      obtain ⟨_, e1, d', e2, ho⟩ := st.own p hp
      rw [h] at e2
      cases e2
      refine ⟨_, e1, ho.rep sub fun o e => ?_⟩
      rw [hide_out]
      · exact e
      · intro z
        rcases List.mem_append.mp z with z | z
        · obtain ⟨p', hp', e'⟩ := List.mem_map.mp z
          have e3 : p' = p := by
            have n2 := st.nd2
            have hp' := sb p' hp'
            obtain ⟨i, hi, ei⟩ := List.mem_iff_getElem.mp hp
            obtain ⟨j, hj, ej⟩ := List.mem_iff_getElem.mp hp'
            have : (A.map (·.2))[i]'(by simpa using hi) = (A.map (·.2))[j]'(by simpa using hj) := by simp [ei, ej, e']
            have := (List.getElem_inj n2).mp this
            subst this
            rw [← ei, ← ej]
          subst e3
          exact hi (List.mem_map.mpr ⟨p', hp', rfl⟩)
        · exact st.notS hp z
    · obtain ⟨v, e, r⟩ := st.rest i d h hi2
      exact ⟨v, e, r.mono sub⟩
theorem StOk.drop (st : StOk K c a0 S H0 Vi O ρ R σ H) (hO : ∀ i ∈ O', i ∈ O) : StOk K c a0 S H0 Vi O' ρ R σ H := by
  obtain ⟨A, st, h1, h2⟩ := st
  refine ⟨A.filter fun p => decide (p.1 ∈ O'), st.drop _, fun i hi d h => ?_, fun i hi => ?_⟩
  · obtain ⟨p, hp, e⟩ := List.mem_map.mp (h1 i (hO i hi) d h)
    refine List.mem_map.mpr ⟨p, List.mem_filter.mpr ⟨hp, ?_⟩, e⟩
    rw [decide_eq_true_eq, e]
    exact hi
  · obtain ⟨p, hp, e⟩ := List.mem_map.mp hi
    rw [← e]
    exact of_decide_eq_true (List.mem_filter.mp hp).2
theorem StOk.on (st : StOk K c a0 S H0 Vi O ρ R σ H) (w1 : Wd K c a0 S H H' R') : StOk K c a0 S H0 Vi O ρ R' σ H' := by
  obtain ⟨A, st, h1, h2⟩ := st
  exact ⟨A, st.on w1, h1, h2⟩
end
end Ev

/-! Ev: statements -/
namespace Ev
open PySem PySem.Spec PyProof.Rows L2
inductive Fl where
  | nx (ρ : Env)
  | rt (d : PyData)
  | bk (ρ : Env)
  | ct (ρ : Env)
abbrev DenS := Env → Row → Res Fl
section
variable (K : PySem.W.Frag) (c : Cfg) (E : XK) (OL O O' : List Nat)
def EndF (D : L2.Ends) (a0 : Addr) (S : List Addr) (H0 Vi : Hp) (fl : Fl) (R' : Row) : Prop := match fl with
  | .nx ρ' => ∀ σ' H', StOk K c a0 S H0 Vi O' ρ' R' σ' H' → D.nx σ' H'
  | .rt d => ∀ v H', Wd K c a0 S H0 H' R' → Rep K a0 (hide H' S) v d → D.rt v H'
  | .bk ρ' => ∀ σ' H', StOk K c a0 S H0 Vi OL ρ' R' σ' H' → D.bk σ' H'
  | .ct ρ' => ∀ σ' H', StOk K c a0 S H0 Vi OL ρ' R' σ' H' → D.ct σ' H'
def tS (den : DenS) : TS := fun D σ H => ∃ a0 S H0 Vi ρ R, StOk K c a0 S H0 Vi O ρ R σ H ∧ Ends (den ρ R) (EndF K c OL O' D a0 S H0 Vi) (Ex K c E a0 S H0)
end
def DS (X : Cx) (c : Cfg) (E : XK) (OL O O' : List Nat) (st : Stmt) (den : DenS) : Prop := PS X st (tS X.K c E OL O O' den)
def DSs (X : Cx) (c : Cfg) (E : XK) (OL O O' : List Nat) (st : List Stmt) (den : DenS) : Prop := PSs X st (tS X.K c E OL O O' den)

def sNext : DenS := fun ρ R => .ok (.nx ρ) R
def sThen (f : Env → Row → Res Fl) (fl : Fl) (R : Row) : Res Fl := match fl with
  | .nx ρ => f ρ R
  | fl => .ok fl R
def sSeq (a b : DenS) : DenS := fun ρ R => (a ρ R).bind (sThen b)
section
variable {X : Cx} {c : Cfg} {E : XK} {OL O O1 O2 O' : List Nat} {pos : Pos}
theorem dss_nil : DSs X c E OL O O [] sNext := PSs.imp pss_nil fun D σ H ⟨a0, S, H0, Vi, ρ, R, st, p⟩ => p σ H st
theorem seq_of {K : PySem.W.Frag} {a b : DenS} {D : L2.Ends} {σ : L2.St} {H : Hp} (h : tS K c E OL O O2 (sSeq a b) D σ H) : tSeq (tS K c E OL O O1 a) (tS K c E OL O1 O2 b) D σ H := by
  obtain ⟨a0, S, H0, Vi, ρ, R, st, p⟩ := h
  refine ⟨a0, S, H0, Vi, ρ, R, st, (Ends.bind p).mono (fun fl R1 q => ?_) fun _ _ x => x⟩
  cases fl with
  | nx ρ1 => exact fun σ1 H1 st1 => ⟨a0, S, H0, Vi, ρ1, R1, st1, q⟩
  | rt d => exact q
  | bk ρ1 => exact q
  | ct ρ1 => exact q
theorem dss_cons {s : Stmt} {r : List Stmt} {a b : DenS} (h1 : DS X c E OL O O1 s a) (h2 : DSs X c E OL O1 O2 r b) : DSs X c E OL O O2 (s :: r) (sSeq a b) := PSs.imp (pss_cons h1 h2) fun _ _ _ => seq_of
theorem dss_one {s : Stmt} {a : DenS} (h1 : DS X c E OL O O1 s a) : DSs X c E OL O O1 [s] a := pss_one h1
theorem tS_weak {K : PySem.W.Frag} {a : DenS} {D : L2.Ends} {σ : L2.St} {H : Hp} (hi : ∀ i ∈ O1, i ∈ O) (ho : ∀ i ∈ O', i ∈ O2) (h : tS K c E OL O O' a D σ H) : tS K c E OL O1 O2 a D σ H := by
  obtain ⟨a0, S, H0, Vi, ρ, R, st, p⟩ := h
  refine ⟨a0, S, H0, Vi, ρ, R, st.drop hi, p.mono (fun fl R1 q => ?_) fun _ _ x => x⟩
  cases fl with
  | nx ρ1 => exact fun σ1 H1 st1 => q σ1 H1 (st1.drop ho)
  | rt d => exact q
  | bk ρ1 => exact q
  | ct ρ1 => exact q
/-- less is owned, ahead and behind -/
theorem DS.weak {s : Stmt} {a : DenS} (h : DS X c E OL O1 O2 s a) (hi : ∀ i ∈ O1, i ∈ O := by decide) (ho : ∀ i ∈ O', i ∈ O2 := by decide) : DS X c E OL O O' s a := PS.imp h fun _ _ _ => tS_weak hi ho
theorem DSs.weak {s : List Stmt} {a : DenS} (h : DSs X c E OL O1 O2 s a) (hi : ∀ i ∈ O1, i ∈ O := by decide) (ho : ∀ i ∈ O', i ∈ O2 := by decide) : DSs X c E OL O O' s a := PSs.imp h fun _ _ _ => tS_weak hi ho
theorem ds_pass : DS X c E OL O O (.Pass pos) sNext := PS.imp ps_pass fun D σ H ⟨a0, S, H0, Vi, ρ, R, st, p⟩ => p σ H st
/-- what is evaluated over the whole state -/
theorem tD_st {K : PySem.W.Frag} {den : Den} {a0 : Addr} {S : List Addr} {H0 Vi H : Hp} {ρ : Env} {R : Row} {σ : L2.St} {Q : VK} {ok : PyData → Row → Prop} (st : StOk K c a0 S H0 Vi O ρ R σ H) (p : Ends (den ρ R) ok (Ex K c E a0 S H0))
    (h : ∀ d R', ok d R' → ∀ v H', Wd K c a0 S H H' R' → StOk K c a0 S H0 Vi O ρ R' σ H' → Rep K a0 (hide H' S) v d → Q v H') : tD K c E den σ H Q := by
  obtain ⟨A, sa, h1, h2⟩ := st
  exact ⟨a0, S, ρ, R, sa.w.here, sa.env, p.mono (fun d R' q v H' w' r => h d R' q v H' w' ⟨A, sa.on w', h1, h2⟩ r) fun _ _ x => x.back sa.w⟩
def sExpr (e : Den) : DenS := fun ρ R => (e ρ R).bind fun _ R1 => .ok (.nx ρ) R1
theorem ds_expr {e : Expr} {d : Den} (h : DE X c E e d) (hs : swapsWith e none pos.line X.env = pure false := by rfl) : DS X c E OL O O (.Expr e pos) (sExpr d) :=
  PS.imp (ps_expr h hs) fun D σ H ⟨a0, S, H0, Vi, ρ, R, st, p⟩ => tD_st st (Ends.bind p) fun d R' q v H' w' st' r => q σ H' st'
def sRet (e : Den) : DenS := fun ρ R => (e ρ R).bind fun d R1 => .ok (.rt d) R1
theorem ds_ret {e : Expr} {d : Den} (h : DE X c E e d) : DS X c E OL O O1 (.Return (some e) pos) (sRet d) :=
  PS.imp (ps_ret h) fun D σ H ⟨a0, S, H0, Vi, ρ, R, st, p⟩ => tD_st st (Ends.bind p) fun d R' q v H' w' st' r => q v H' (by obtain ⟨A, sa, _⟩ := st'; exact sa.w) r
theorem tDB_st {K : PySem.W.Frag} {den : DenB} {a0 : Addr} {S : List Addr} {H0 Vi H : Hp} {ρ : Env} {R : Row} {σ : L2.St} {Q : Bool → Hp → Prop} {ok : Bool → Row → Prop} (st : StOk K c a0 S H0 Vi O ρ R σ H) (p : Ends (den ρ R) ok (Ex K c E a0 S H0))
    (h : ∀ b R', ok b R' → ∀ H', StOk K c a0 S H0 Vi O ρ R' σ H' → Q b H') : tDB K c E den σ H Q := by
  obtain ⟨A, sa, h1, h2⟩ := st
  exact ⟨a0, S, ρ, R, sa.w.here, sa.env, p.mono (fun b R' q H' w' => h b R' q H' ⟨A, sa.on w', h1, h2⟩) fun _ _ x => x.back sa.w⟩
def sIf (t : DenB) (a b : DenS) : DenS := fun ρ R => (t ρ R).bind fun k R1 => if k then a ρ R1 else b ρ R1
theorem ds_if {t : Expr} {a b : List Stmt} {dt : DenB} {da db : DenS} (ht : DT X c E t dt) (ha : DSs X c E OL O O1 a da) (hb : DSs X c E OL O O1 b db) : DS X c E OL O O1 (.If t a b pos) (sIf dt da db) :=
  PS.imp (ps_if ht ha hb) fun D σ H ⟨a0, S, H0, Vi, ρ, R, st, p⟩ => tDB_st st (Ends.bind p) fun b R' q H' st' => by
    cases b with
    | true => exact ⟨a0, S, H0, Vi, ρ, R', st', q⟩
    | false => exact ⟨a0, S, H0, Vi, ρ, R', st', q⟩

/-! ### pure values are stored -/
theorem StA.pure {K : PySem.W.Frag} {a0 : Addr} {S : List Addr} {H0 Vi H : Hp} {A : List (Nat × Addr)} {ρ : Env} {R : Row} {σ : L2.St} (st : StA K c a0 S H0 Vi A ρ R σ H) {v : V} {d : PyData} (r : Rep K a0 (hide H S) v d) (h : pureD d = true) : Rep K a0 (hide H (A.map (·.2) ++ S)) v d :=
  r.pure (fun b hb o e xs z => by
    obtain ⟨o', e', _, n, _⟩ := st.as b hb
    rw [e] at e'
    cases e'
    exact n xs z) h
theorem StA.pureA {K : PySem.W.Frag} {a0 : Addr} {S : List Addr} {H0 Vi H : Hp} {A : List (Nat × Addr)} {ρ : Env} {R : Row} {σ : L2.St} (st : StA K c a0 S H0 Vi A ρ R σ H) {v : List V} {d : List PyData} (r : RepA K a0 (hide H S) v d) (h : pureA d = true) : RepA K a0 (hide H (A.map (·.2) ++ S)) v d :=
  r.pure (fun b hb o e xs z => by
    obtain ⟨o', e', _, n, _⟩ := st.as b hb
    rw [e] at e'
    cases e'
    exact n xs z) h
/-- slots vs are stored, by values that do not lean on what is owned -/
theorem StA.store {K : PySem.W.Frag} {a0 : Addr} {S : List Addr} {H0 Vi H : Hp} {A : List (Nat × Addr)} {ρ ρ' : Env} {R : Row} {σ σ' : L2.St} {vs : List Nat} (st : StA K c a0 S H0 Vi A ρ R σ H) (l1 : ρ'.length = ρ.length) (k1 : ∀ i, i ∉ vs → ρ'[i]? = ρ[i]?) (l2 : σ'.length = σ.length) (k2 : ∀ i, i ∉ vs → σ'[i]? = σ[i]?)
    (r : ∀ i, i ∈ vs → ∀ d', ρ'[i]? = some (some d') → ∃ v', σ'[i]? = some (some v') ∧ Rep K a0 (hide H (A.map (·.2) ++ S)) v' d') : StA K c a0 S H0 Vi (A.filter fun p => decide (p.1 ∉ vs)) ρ' R σ' H := by
  have sd := st.drop fun p => decide (p.1 ∉ vs)
  have sub : Sub (hide H (A.map (·.2) ++ S)) (hide H ((A.filter fun p => decide (p.1 ∉ vs)).map (·.2) ++ S)) := hide_more fun b hb => by
    rcases List.mem_append.mp hb with hb | hb
    · obtain ⟨p, hp, rfl⟩ := List.mem_map.mp hb
      exact List.mem_append_left _ (List.mem_map.mpr ⟨p, (List.mem_filter.mp hp).1, rfl⟩)
    · exact List.mem_append_right _ hb
  refine ⟨sd.w, sd.nd1, sd.nd2, fun p hp => ?_, by rw [l1, l2, st.len], fun i d h hi => ?_, sd.vis⟩
  · obtain ⟨f, e1, d, e2, ho⟩ := sd.own p hp
    have hn : p.1 ∉ vs := of_decide_eq_true (List.mem_filter.mp hp).2
    exact ⟨f, by rw [k2 _ hn]; exact e1, d, by rw [k1 _ hn]; exact e2, ho⟩
  · by_cases hv : i ∈ vs
    · obtain ⟨v', e, r'⟩ := r i hv d h
      exact ⟨v', e, r'.mono sub⟩
    · rw [k1 i hv] at h
      rw [k2 i hv]
      exact sd.rest i d h hi
def minus (O vs : List Nat) : List Nat := O.filter fun i => decide (i ∉ vs)
theorem own_minus {A : List (Nat × Addr)} {ρ ρ' : Env} {vs : List Nat} (k1 : ∀ i, i ∉ vs → ρ'[i]? = ρ[i]?) (h1 : ∀ i ∈ O, ∀ d, ρ[i]? = some (some d) → i ∈ A.map (·.1)) (h2 : ∀ i ∈ A.map (·.1), i ∈ O) :
    (∀ i ∈ minus O vs, ∀ d, ρ'[i]? = some (some d) → i ∈ (A.filter fun p => decide (p.1 ∉ vs)).map (·.1)) ∧ ∀ i ∈ (A.filter fun p => decide (p.1 ∉ vs)).map (·.1), i ∈ minus O vs := by
  refine ⟨fun i hi d h => ?_, fun i hi => ?_⟩
  · obtain ⟨hO, hn⟩ := List.mem_filter.mp hi
    have hn := of_decide_eq_true hn
    rw [k1 i hn] at h
    obtain ⟨p, hp, e⟩ := List.mem_map.mp (h1 i hO d h)
    exact List.mem_map.mpr ⟨p, List.mem_filter.mpr ⟨hp, by rw [e]; exact decide_eq_true hn⟩, e⟩
  · obtain ⟨p, hp, e⟩ := List.mem_map.mp hi
    obtain ⟨hp, hn⟩ := List.mem_filter.mp hp
    rw [← e]
    exact List.mem_filter.mpr ⟨h2 _ (List.mem_map.mpr ⟨p, hp, rfl⟩), hn⟩
/-- target = e, e pure -/
def sAsg (t : Tgt) (e : Den) : DenS := fun ρ R => (e ρ R).bind fun d R1 => if pureD d then (match t d ρ with | some ρ' => .ok (.nx ρ') R1 | none => .stuck) else .stuck
theorem asg_of {K : PySem.W.Frag} {vs : List Nat} {t : Tgt} {e : Den} {D : L2.Ends} {σ : L2.St} {H : Hp} (ok : TgtOk vs t) (h : tS K c E OL O (minus O vs) (sAsg t e) D σ H) : tAsg (tD K c E e) (tG K vs t) D σ H := by
  obtain ⟨a0, S, H0, Vi, ρ, R, st, p⟩ := h
  refine tD_st st (Ends.bind p) fun d R' q v H' w' st' r => ?_
  split at q
  · rename_i hp
    obtain ⟨A, sa, h1, h2⟩ := st'
    split at q
    · rename_i ρ' ht
      have rp := sa.pure r hp
      obtain ⟨o1, o2⟩ := ok _ _ _ ht
      refine ⟨a0, A.map (·.2) ++ S, ρ, d, ρ', sa.len, rp, ht, fun σ' l2 k2 r2 => q σ' H' ?_⟩
      obtain ⟨q1, q2⟩ := own_minus o2 h1 h2
      exact ⟨_, sa.store o1 o2 l2 k2 r2, q1, q2⟩
    · exact q.elim
  · exact q.elim
/-- target = e, what e tells may lean on what is given up: ks stays owned, and is not seen by e -/
def sAsgM (ks : List Nat) (t : Tgt) (e : Den) : DenS := fun ρ R => (e (wipeE ρ ks) R).bind fun d R1 => match t d ρ with | some ρ' => .ok (.nx ρ') R1 | none => .stuck
theorem tD_stM {K : PySem.W.Frag} {den : Den} {a0 : Addr} {S : List Addr} {H0 Vi H : Hp} {ρ : Env} {R : Row} {σ : L2.St} {Q : VK} {ok : PyData → Row → Prop} (st : StOk K c a0 S H0 Vi O ρ R σ H) (p : Ends (den (wipeE ρ O) R) ok (Ex K c E a0 S H0))
    (h : ∀ d R', ok d R' → ∀ A, (∀ i ∈ O, ∀ d, ρ[i]? = some (some d) → i ∈ A.map (·.1)) → (∀ i ∈ A.map (·.1), i ∈ O) → ∀ v H', StA K c a0 S H0 Vi A ρ R' σ H' → Rep K a0 (hide H' (A.map (·.2) ++ S)) v d → Q v H') : tD K c E den σ H Q := by
  obtain ⟨A, sa, h1, h2⟩ := st
  refine ⟨a0, A.map (·.2) ++ S, wipeE ρ O, R, sa.wdA, sa.envM h2, p.mono (fun d R' q v H' w' r => ?_) fun nm R1 x dx H' w' e => ?_⟩
  · exact h d R' q A h1 h2 v H' (sa.on (w'.less (fun b hb => List.mem_append_right _ hb) sa.w.a0S)) r
  · exact x dx H' (sa.w.trans (w'.less (fun b hb => List.mem_append_right _ hb) sa.w.a0S)) e
theorem asgM_of {K : PySem.W.Frag} {ks vs : List Nat} {t : Tgt} {e : Den} {D : L2.Ends} {σ : L2.St} {H : Hp} (ok : TgtOk vs t) (hk : ∀ i ∈ ks, i ∈ O) (h : tS K c E OL O (minus ks vs) (sAsgM ks t e) D σ H) : tAsg (tD K c E e) (tG K vs t) D σ H := by
  obtain ⟨a0, S, H0, Vi, ρ, R, st, p⟩ := h
  refine tD_stM (st.drop hk) (Ends.bind p) fun d R' q A h1 h2 v H' sa r => ?_
  split at q
  · rename_i ρ' ht
    obtain ⟨o1, o2⟩ := ok _ _ _ ht
    refine ⟨a0, A.map (·.2) ++ S, ρ, d, ρ', sa.len, r, ht, fun σ' l2 k2 r2 => q σ' H' ?_⟩
    obtain ⟨q1, q2⟩ := own_minus o2 h1 h2
    exact ⟨_, sa.store o1 o2 l2 k2 r2, q1, q2⟩
  · exact q.elim
end
end Ev

/-! Ev: assignments -/
namespace Ev
open PySem PySem.Spec PyProof.Rows L2
/-- a list or dict of pure things -/
def pureIn : PyData → Bool
  | .list ds => pureA ds
  | .dict ps => ps.all fun p => pureD p.2
  | _ => false
section
variable {K : PySem.W.Frag} {a0 : Addr} {H : Hp}
theorem RepK.pure {S S' : List Addr} (hS : ∀ b ∈ S', ∀ o, H b = some o → ∀ xs, o ≠ .tup xs) : ∀ {v : List (Key × V)} {d : List (PyData × PyData)}, RepK K a0 (hide H S) v d → (d.all fun p => pureD p.2) = true → RepK K a0 (hide H (S' ++ S)) v d
  | _, _, .nil, _ => .nil
  | _, _, .cons h r, e => by
    rw [List.all_cons, Bool.and_eq_true] at e
    exact .cons (h.pure hS e.1) (RepK.pure hS r e.2)
theorem RepT.pure {S S' : List Addr} (hS : ∀ b ∈ S', ∀ o, H b = some o → ∀ xs, o ≠ .tup xs) : ∀ {v : List (List Key × V)} {d : List (PyData × PyData)}, RepT K a0 (hide H S) v d → (d.all fun p => pureD p.2) = true → RepT K a0 (hide H (S' ++ S)) v d
  | _, _, .nil, _ => .nil
  | _, _, .cons h r, e => by
    rw [List.all_cons, Bool.and_eq_true] at e
    exact .cons (h.pure hS e.1) (RepT.pure hS r e.2)
theorem OwnAt.pure {S S' : List Addr} {Hx : Hp} (hS : ∀ b ∈ S', ∀ o, H b = some o → ∀ xs, o ≠ .tup xs) {a : Addr} {d : PyData} (h : OwnAt K a0 (hide H S) Hx a d) (e : pureIn d = true) : OwnAt K a0 (hide H (S' ++ S)) Hx a d := by
  cases d with
  | list ds => obtain ⟨xs, h, r⟩ := h; exact ⟨xs, h, r.pure hS e⟩
  | dict ps =>
    rcases h with ⟨xs, h, r⟩ | ⟨xs, h, r⟩
    · exact .inl ⟨xs, h, r.pure hS e⟩
    · exact .inr ⟨xs, h, r.pure hS e⟩
  | _ => exact h.elim
end
/-- something new that is owned -/
def tDF (K : PySem.W.Frag) (c : Cfg) (E : XK) (den : Den) : TE := fun σ H Q => ∃ a0 S ρ R, Wd K c a0 S H H R ∧ EnvR K a0 (hide H S) ρ σ ∧
  Ends (den ρ R) (fun d R' => ∀ p H', Fr H p → Wd K c a0 S H H' R' → OwnAt K a0 (hide H' (p :: S)) H' p d → Q (.ref p) H') (Ex K c E a0 S H)
def DF (X : Cx) (c : Cfg) (E : XK) (e : Expr) (den : Den) : Prop := PE X e (tDF X.K c E den)
section
variable {X : Cx} {c : Cfg} {E : XK} {OL O O1 O2 O' : List Nat} {pos : Pos}
theorem tDN_of_F {K : PySem.W.Frag} {l : DenL} {σ : L2.St} {H : Hp} {Q : VK} (h : tDF K c E (dLst l) σ H Q) : tDN K c E l σ H Q := by
  obtain ⟨a0, S, ρ, R, w, en, p⟩ := h
  exact ⟨a0, S, ρ, R, w, en, ends_next p fun ds R1 q p vs H1 hp w1 h1 r => q p H1 hp w1 ⟨vs, h1, r⟩⟩
theorem DN.df {e : Expr} {l : DenL} (h : DN X c E e l) : DF X c E e (dLst l) := PE.imp h fun _ _ _ => tDN_of_F
theorem tDF_of_D {K : PySem.W.Frag} {d : Den} {σ : L2.St} {H : Hp} {Q : VK} (h : tD K c E d σ H Q) : tDF K c E d σ H Q := by
  obtain ⟨a0, S, ρ, R, w, en, p⟩ := h
  refine ⟨a0, S, ρ, R, w, en, p.mono (fun d R1 q p H1 hp w1 ho => ?_) fun _ _ x => x⟩
  refine q _ _ w1 (ho.rep (hide_more fun b hb => List.mem_cons_of_mem _ hb) fun o e => ?_)
  rw [hide_out]
  · exact e
  · intro z
    obtain ⟨o', e', n⟩ := w.sS p z
    exact hp o' e' n
theorem DF.de {e : Expr} {d : Den} (h : DF X c E e d) : DE X c E e d := PE.imp h fun _ _ _ => tDF_of_D
theorem df_dictK : DF X c E (.Dict [] [] pos) (dC (.dict [])) := PE.imp pe_dnewK fun σ H Q ⟨a0, S, ρ, R, w, en, q⟩ p hp => q p _ (fun o eo => by rw [hp] at eo; cases eo) (w.new hp) (.inl ⟨[], upd_same, .nil⟩)
theorem df_dictT : DF X c E (.Dict [] [] pos) (dC (.dict [])) := PE.imp pe_dnewT fun σ H Q ⟨a0, S, ρ, R, w, en, q⟩ p hp => q p _ (fun o eo => by rw [hp] at eo; cases eo) (w.new hp) (.inr ⟨[], upd_same, .nil⟩)

/-! ### the slot i gets something new -/
theorem StA.own1 {K : PySem.W.Frag} {a0 : Addr} {S : List Addr} {H0 Vi H H' : Hp} {A : List (Nat × Addr)} {ρ : Env} {R R' : Row} {σ : L2.St} {i : Nat} {p : Addr} {d : PyData} (st : StA K c a0 S H0 Vi A ρ R σ H) (w1 : Wd K c a0 S H H' R') (hp : Fr H p) (hi : i < ρ.length)
    (ho : OwnAt K a0 (hide H' (p :: (A.map (·.2) ++ S))) H' p d) : StA K c a0 S H0 Vi ((i, p) :: A.filter fun q => decide (q.1 ∉ [i])) (ρ.set i (some d)) R' (σ.set i (some (.ref p))) H' := by
  have sd := (st.on w1).drop fun q => decide (q.1 ∉ [i])
  have nA : p ∉ A.map (·.2) := fun z => by
    obtain ⟨o, e, n, _⟩ := st.as p z
    exact hp o e n
  have nS : p ∉ S := fun z => by
    obtain ⟨o, e, n⟩ := st.w.here.sS p z
    exact hp o e n
  have nA2 : p ∉ (A.filter fun q => decide (q.1 ∉ [i])).map (·.2) := fun z => by
    obtain ⟨q, hq, e⟩ := List.mem_map.mp z
    exact nA (List.mem_map.mpr ⟨q, (List.mem_filter.mp hq).1, e⟩)
  have f0 : Fr H0 p := fun o e n => by
    by_cases ea : p = a0
    · exact nS (by rw [ea]; exact st.w.a0S)
    · exact hp o (st.w.gr p o ea e n) n
  -- what was to be seen ahead is none of p
  have sub : Sub (hide H ((A.filter fun q => decide (q.1 ∉ [i])).map (·.2) ++ S)) (hide H' (p :: ((A.filter fun q => decide (q.1 ∉ [i])).map (·.2) ++ S))) := fun b o h n => by
    obtain ⟨nb, h⟩ := of_hide h
    have e : b ≠ p := fun z => hp o (by rw [← z]; exact h) n
    rw [hide_out (fun z => (List.mem_cons.mp z).elim e nb)]
    exact w1.gr b o (fun z => nb (by rw [z]; exact List.mem_append_right _ st.w.a0S)) h n
  have sd0 := st.drop fun q => decide (q.1 ∉ [i])
  refine ⟨sd.w, ?_, ?_, fun q hq => ?_, by rw [List.length_set, List.length_set, st.len], fun j e h hj => ?_, sd0.vis.trans sub⟩
  · rw [List.map_cons, List.nodup_cons]
    refine ⟨fun z => ?_, sd.nd1⟩
    obtain ⟨q, hq, e⟩ := List.mem_map.mp z
    have n := of_decide_eq_true (List.mem_filter.mp hq).2
    exact n (by rw [e]; exact List.mem_cons_self)
  · rw [List.map_cons, List.nodup_cons]
    exact ⟨nA2, sd.nd2⟩
  · rcases List.mem_cons.mp hq with e | hq
    · subst e
      refine ⟨f0, by rw [List.getElem?_set_self (by rw [← st.len]; exact hi)], d, by rw [List.getElem?_set_self hi], ?_⟩
      refine ho.mono (hide_more fun b hb => ?_) fun o e _ => e
      rcases List.mem_cons.mp hb with e | hb
      · subst e; exact List.mem_cons_self
      · rcases List.mem_append.mp hb with hb | hb
        · obtain ⟨q, hq, rfl⟩ := List.mem_map.mp hb
          exact List.mem_cons_of_mem _ (List.mem_append_left _ (List.mem_map.mpr ⟨q, (List.mem_filter.mp hq).1, rfl⟩))
        · exact List.mem_cons_of_mem _ (List.mem_append_right _ hb)
    · obtain ⟨f, e1, d', e2, h'⟩ := sd0.own q hq
      have n : q.1 ≠ i := fun z => (of_decide_eq_true (List.mem_filter.mp hq).2) (by rw [z]; exact List.mem_cons_self)
      refine ⟨f, by rw [List.getElem?_set_ne (Ne.symm n)]; exact e1, d', by rw [List.getElem?_set_ne (Ne.symm n)]; exact e2, ?_⟩
      exact h'.mono sub fun o e n => w1.gr q.2 o (fun z => sd0.notS hq (by rw [z]; exact st.w.a0S)) e n
  · have n : j ≠ i := fun z => hj (by rw [z]; exact List.mem_cons_self)
    rw [List.getElem?_set_ne (Ne.symm n)] at h ⊢
    obtain ⟨v, e1, r⟩ := sd0.rest j e h fun z => hj (List.mem_cons_of_mem _ z)
    exact ⟨v, e1, r.mono sub⟩
def sNew (i : Nat) (e : Den) : DenS := fun ρ R => (e ρ R).bind fun d R1 => if pureIn d && decide (i < ρ.length) then .ok (.nx (ρ.set i (some d))) R1 else .stuck
def sNewM (ks : List Nat) (i : Nat) (e : Den) : DenS := fun ρ R => (e (wipeE ρ ks) R).bind fun d R1 => if decide (i < ρ.length) then .ok (.nx (ρ.set i (some d))) R1 else .stuck
theorem own_new {A : List (Nat × Addr)} {ρ : Env} {i : Nat} {p : Addr} {d : PyData} (h1 : ∀ i ∈ O, ∀ d, ρ[i]? = some (some d) → i ∈ A.map (·.1)) (h2 : ∀ i ∈ A.map (·.1), i ∈ O) :
    (∀ j ∈ i :: minus O [i], ∀ e, (ρ.set i (some d))[j]? = some (some e) → j ∈ ((i, p) :: A.filter fun q => decide (q.1 ∉ [i])).map (·.1)) ∧ ∀ j ∈ ((i, p) :: A.filter fun q => decide (q.1 ∉ [i])).map (·.1), j ∈ i :: minus O [i] := by
  obtain ⟨q1, q2⟩ := own_minus (ρ' := ρ.set i (some d)) (vs := [i]) (fun j hj => List.getElem?_set_ne fun z => hj (by rw [z]; exact List.mem_cons_self)) h1 h2
  refine ⟨fun j hj e h => ?_, fun j hj => ?_⟩
  · rw [List.map_cons]
    rcases List.mem_cons.mp hj with z | z
    · rw [z]; exact List.mem_cons_self
    · exact List.mem_cons_of_mem _ (q1 j z e h)
  · rw [List.map_cons] at hj
    rcases List.mem_cons.mp hj with z | z
    · rw [z]; exact List.mem_cons_self
    · exact List.mem_cons_of_mem _ (q2 j z)
theorem new_of {K : PySem.W.Frag} {i : Nat} {e : Den} {D : L2.Ends} {σ : L2.St} {H : Hp} (h : tS K c E OL O (i :: minus O [i]) (sNew i e) D σ H) : tAsg (tDF K c E e) (gName i) D σ H := by
  obtain ⟨a0, S, H0, Vi, ρ, R, ⟨A, sa, h1, h2⟩, p⟩ := h
  refine ⟨a0, S, ρ, R, sa.w.here, sa.env, (Ends.bind p).mono (fun d R' q p H' hp w' ho => ?_) fun nm R1 x => x.back sa.w⟩
  split at q
  · rename_i hc
    rw [Bool.and_eq_true, decide_eq_true_eq] at hc
    obtain ⟨q1, q2⟩ := own_new (i := i) (p := p) (d := d) h1 h2
    refine q _ _ ⟨_, sa.own1 w' hp hc.2 ?_, q1, q2⟩
    have hS : ∀ b ∈ A.map (·.2), ∀ o, H' b = some o → ∀ xs, o ≠ .tup xs := fun b hb o eo xs z => by
      obtain ⟨o', e', n, nt, _⟩ := (sa.on w').as b hb
      rw [eo] at e'
      cases e'
      exact nt xs z
    refine (ho.pure hS hc.1).mono (hide_more fun b hb => ?_) fun o e _ => e
    rcases List.mem_cons.mp hb with e | hb
    · rw [e]; exact List.mem_append_right _ List.mem_cons_self
    · rcases List.mem_append.mp hb with hb | hb
      · exact List.mem_append_left _ hb
      · exact List.mem_append_right _ (List.mem_cons_of_mem _ hb)
  · exact q.elim
theorem newM_of {K : PySem.W.Frag} {ks : List Nat} {i : Nat} {e : Den} {D : L2.Ends} {σ : L2.St} {H : Hp} (hk : ∀ i ∈ ks, i ∈ O) (h : tS K c E OL O (i :: minus ks [i]) (sNewM ks i e) D σ H) : tAsg (tDF K c E e) (gName i) D σ H := by
  obtain ⟨a0, S, H0, Vi, ρ, R, st, p⟩ := h
  obtain ⟨A, sa, h1, h2⟩ := st.drop hk
  refine ⟨a0, A.map (·.2) ++ S, wipeE ρ ks, R, sa.wdA, sa.envM h2, (Ends.bind p).mono (fun d R' q p H' hp w' ho => ?_) fun nm R1 x dx H' w' e => x dx H' (sa.w.trans (w'.less (fun b hb => List.mem_append_right _ hb) sa.w.a0S)) e⟩
  split at q
  · rename_i hc
    rw [decide_eq_true_eq] at hc
    obtain ⟨q1, q2⟩ := own_new (i := i) (p := p) (d := d) h1 h2
    exact q _ _ ⟨_, sa.own1 (w'.less (fun b hb => List.mem_append_right _ hb) sa.w.a0S) hp hc ho, q1, q2⟩
  · exact q.elim

/-! ### the rules -/
theorem tD_monoQ {K : PySem.W.Frag} {d : Den} {σ : L2.St} {H : Hp} {Q Q' : VK} (h : tD K c E d σ H Q) (m : ∀ v H, Q v H → Q' v H) : tD K c E d σ H Q' := by
  obtain ⟨a0, S, ρ, R, w, en, p⟩ := h
  exact ⟨a0, S, ρ, R, w, en, p.mono (fun d R1 q v H1 w1 r => m _ _ (q v H1 w1 r)) fun _ _ x => x⟩
theorem tG_name {K : PySem.W.Frag} {i : Nat} {v : V} {σ : L2.St} {H : Hp} {Q : L2.St → Hp → Prop} (h : tG K [i] (gSet i) v σ H Q) : gName i v σ H Q := by
  obtain ⟨a0, S, ρ, d, ρ', l, r, e, k⟩ := h
  cases e
  refine k _ (by rw [List.length_set]) (fun j hj => List.getElem?_set_ne fun z => hj (by rw [← z]; exact List.mem_cons_self)) fun j hj d' h => ?_
  have : j = i := by simpa using hj
  subst this
  have hlt : j < ρ.length := by
    have := (List.getElem?_eq_some_iff.mp h).1
    rwa [List.length_set] at this
  rw [List.getElem?_set_self hlt] at h
  cases h
  exact ⟨v, by rw [List.getElem?_set_self (by rw [← l]; exact hlt)], r⟩
/-- x = e -/
theorem ds_set (i : Nat) {x : Str} {e : Expr} {d : Den} {pos' : Pos} (hN : X.N.Nodup) (h : DE X c E e d) (hi : X.N[i]? = some x := by rfl) (hx : Loc X.env.scope x := by first | exact Or.inl rfl | exact Or.inr rfl) (hs : swapsWith e (some (.Name x pos')) pos.line X.env = pure false := by rfl) (hf : X.fn x = true ∨ X.env.scope.names.lookup x = some .local := by first | exact .inl rfl | exact .inr rfl) :
    DS X c E OL O (minus O [i]) (.Assign [.Name x pos'] e pos) (sAsg (gSet i) d) := PS.imp (ps_set hN hi hx h hs hf) fun D σ H h => tD_monoQ (asg_of (tok_name i) h) fun _ _ => tG_name
theorem ds_setM (ks : List Nat) (i : Nat) {x : Str} {e : Expr} {d : Den} {pos' : Pos} (hN : X.N.Nodup) (h : DE X c E e d) (hk : ∀ i ∈ ks, i ∈ O := by decide) (hi : X.N[i]? = some x := by rfl) (hx : Loc X.env.scope x := by first | exact Or.inl rfl | exact Or.inr rfl) (hs : swapsWith e (some (.Name x pos')) pos.line X.env = pure false := by rfl) (hf : X.fn x = true ∨ X.env.scope.names.lookup x = some .local := by first | exact .inl rfl | exact .inr rfl) :
    DS X c E OL O (minus ks [i]) (.Assign [.Name x pos'] e pos) (sAsgM ks (gSet i) d) := PS.imp (ps_set hN hi hx h hs hf) fun D σ H h => tD_monoQ (asgM_of (tok_name i) hk h) fun _ _ => tG_name
/-- x = something new: as an assignment of any kind -/
def DA (X : Cx) (c : Cfg) (E : XK) (i : Nat) (st : Stmt) (d : Den) : Prop := PS X st (tAsg (tDF X.K c E d) (gName i))
theorem da_set (i : Nat) {x : Str} {e : Expr} {d : Den} {pos' : Pos} (hN : X.N.Nodup) (h : DF X c E e d) (hi : X.N[i]? = some x := by rfl) (hx : Loc X.env.scope x := by first | exact Or.inl rfl | exact Or.inr rfl) (hs : swapsWith e (some (.Name x pos')) pos.line X.env = pure false := by rfl) (hf : X.fn x = true ∨ X.env.scope.names.lookup x = some .local := by first | exact .inl rfl | exact .inr rfl) :
    DA X c E i (.Assign [.Name x pos'] e pos) d := ps_set hN hi hx h hs hf
theorem ds_new {i : Nat} {st : Stmt} {d : Den} (h : DA X c E i st d) : DS X c E OL O (i :: minus O [i]) st (sNew i d) := PS.imp h fun _ _ _ => new_of
theorem ds_newM (ks : List Nat) {i : Nat} {st : Stmt} {d : Den} (h : DA X c E i st d) (hk : ∀ i ∈ ks, i ∈ O := by decide) : DS X c E OL O (i :: minus ks [i]) st (sNewM ks i d) := PS.imp h fun _ _ _ => newM_of hk
/-- x = [.. for ..] on one line, x a local name -/
theorem da_comp (i : Nat) {y : Str} {py : Pos} {elt tg iter : Expr} {ifs : List Expr} {scope : Scope} {own : List (Str × Nat)} {spos : Pos} {vs : List Nat} {it : DenL} {tgt : Tgt} {tt : DenB} {de : Den} (hc : X.calm = true) (hN : X.N.Nodup) (tok : TgtOk vs tgt) (hi : DI X c E tg iter it) (ok : blkC X.N X.env.scope scope own = true) (hv : own.map (·.2) = vs)
    (hg : ∀ (s : Shared) (H : Hp) (C : Addr) (cl : List (Str × Addr)) (fp : List Addr), DG (X.blk s H scope (compEnvC scope cl C X.env) fp) tg vs tgt)
    (ht : ∀ (s : Shared) (H : Hp) (C : Addr) (cl : List (Str × Addr)) (fp : List Addr), DTs (X.blk s H scope (compEnvC scope cl C X.env) fp) c EF ifs tt)
    (he : ∀ (s : Shared) (H : Hp) (C : Addr) (cl : List (Str × Addr)) (fp : List Addr), DE (X.blk s H scope (compEnvC scope cl C X.env) fp) c EF elt de)
    (hy : X.N[i]? = some y := by rfl) (hyl : X.env.scope.names.lookup y = some .local := by rfl) (hsw : swapsWith (.ListComp elt [⟨tg, iter, ifs, 0⟩] scope pos) (some (.Name y py)) spos.line X.env = pure true := by exact sw_true rfl rfl rfl (by decide +kernel)) (hs : ∀ x, foldedSetIterable iter X.env x = pure x := by intro _; rfl) :
    DA X c E i (.Assign [.Name y py] (.ListComp elt [⟨tg, iter, ifs, 0⟩] scope pos) spos) (dLst (nComp it tgt vs tt de)) := by
  subst hv
  refine PS.imp (ps_setLc (wi := tDI X.K c E it) (g := tG X.K _ tgt) (tt := tDB X.K c EF tt) (te := tD X.K c EF de) hc hN hy hyl hsw hi (blkOk_by ok) (fun s H C cl fp => (hg s H C cl fp).pg) ht he hs) fun D σ H h => ?_
  exact comp_reads tok (tDN_of_F h)
theorem da_comp2 (i : Nat) {y : Str} {py : Pos} {elt tg iter tg1 iter1 : Expr} {ifs ifs1 : List Expr} {scope : Scope} {own : List (Str × Nat)} {spos : Pos} {vs vs1 : List Nat} {it it1 : DenL} {tgt tgt1 : Tgt} {tt tt1 : DenB} {de : Den} (hc : X.calm = true) (hN : X.N.Nodup) (tok : TgtOk vs tgt) (tok1 : TgtOk vs1 tgt1) (hi : DI X c E tg iter it) (ok : blkC X.N X.env.scope scope own = true) (hv : own.map (·.2) = vs) (hv1 : ∀ i ∈ vs1, i ∈ vs)
    (hg : ∀ (s : Shared) (H : Hp) (C : Addr) (cl : List (Str × Addr)) (fp : List Addr), DG (X.blk s H scope (compEnvC scope cl C X.env) fp) tg vs tgt)
    (ht : ∀ (s : Shared) (H : Hp) (C : Addr) (cl : List (Str × Addr)) (fp : List Addr), DTs (X.blk s H scope (compEnvC scope cl C X.env) fp) c EF ifs tt)
    (hi1 : ∀ (s : Shared) (H : Hp) (C : Addr) (cl : List (Str × Addr)) (fp : List Addr), DI (X.blk s H scope (compEnvC scope cl C X.env) fp) c EF tg1 iter1 it1)
    (hg1 : ∀ (s : Shared) (H : Hp) (C : Addr) (cl : List (Str × Addr)) (fp : List Addr), DG (X.blk s H scope (compEnvC scope cl C X.env) fp) tg1 vs1 tgt1)
    (ht1 : ∀ (s : Shared) (H : Hp) (C : Addr) (cl : List (Str × Addr)) (fp : List Addr), DTs (X.blk s H scope (compEnvC scope cl C X.env) fp) c EF ifs1 tt1)
    (he : ∀ (s : Shared) (H : Hp) (C : Addr) (cl : List (Str × Addr)) (fp : List Addr), DE (X.blk s H scope (compEnvC scope cl C X.env) fp) c EF elt de)
    (hy : X.N[i]? = some y := by rfl) (hyl : X.env.scope.names.lookup y = some .local := by rfl) (hsw : swapsWith (.ListComp elt [⟨tg, iter, ifs, 0⟩, ⟨tg1, iter1, ifs1, 0⟩] scope pos) (some (.Name y py)) spos.line X.env = pure true := by exact sw_true rfl rfl rfl (by decide +kernel)) (hs : ∀ x, foldedSetIterable iter X.env x = pure x := by intro _; rfl) (hs1 : ∀ env x, foldedSetIterable iter1 env x = pure x := by intro _ _; rfl) :
    DA X c E i (.Assign [.Name y py] (.ListComp elt [⟨tg, iter, ifs, 0⟩, ⟨tg1, iter1, ifs1, 0⟩] scope pos) spos) (dLst (nComp2 it tgt vs tt it1 tgt1 vs1 tt1 de)) := by
  subst hv
  refine PS.imp (ps_setLc2 (wi := tDI X.K c E it) (g := tG X.K _ tgt) (tt := tDB X.K c EF tt) (wi1 := tDI X.K c EF it1) (g1 := tG X.K vs1 tgt1) (tt1 := tDB X.K c EF tt1) (te := tD X.K c EF de) hc hN hy hyl hsw hi (blkOk_by ok) hv1 (fun s H C cl fp => (hg s H C cl fp).pg) ht hi1 (fun s H C cl fp => (hg1 s H C cl fp).pg) ht1 he hs hs1) fun D σ H h => ?_
  exact comp2_reads tok tok1 (tDN_of_F h)
/-- target = e (a tuple of names ..) -/
theorem ds_asg {tg e : Expr} {vs : List Nat} {t : Tgt} {d : Den} (tok : TgtOk vs t) (h : DE X c E e d) (hg : DG X tg vs t) (hs : swapsWithSole [tg] e pos.line X.env = pure false := by rfl) (hw : swappedStores [tg] e X.env = pure none := by rfl) (h1 : (assignEach [tg] X.env).map (·.2) = [assign tg X.env] := by rfl) :
    DS X c E OL O (minus O vs) (.Assign [tg] e pos) (sAsg t d) := PS.imp (ps_asg h hg.pg hs hw h1) fun D σ H h => asg_of tok h
theorem ds_asgM (ks : List Nat) {tg e : Expr} {vs : List Nat} {t : Tgt} {d : Den} (tok : TgtOk vs t) (h : DE X c E e d) (hg : DG X tg vs t) (hk : ∀ i ∈ ks, i ∈ O := by decide) (hs : swapsWithSole [tg] e pos.line X.env = pure false := by rfl) (hw : swappedStores [tg] e X.env = pure none := by rfl) (h1 : (assignEach [tg] X.env).map (·.2) = [assign tg X.env] := by rfl) :
    DS X c E OL O (minus ks vs) (.Assign [tg] e pos) (sAsgM ks t d) := PS.imp (ps_asg h hg.pg hs hw h1) fun D σ H h => asgM_of tok hk h
end
end Ev

/-! Ev: what is owned is changed; loops -/
namespace Ev
open PySem PySem.Spec PyProof.Rows L2
def plainO : HO → Prop
  | .lst _ => True
  | .dK _ => True
  | .dT _ => True
  | _ => False
theorem OwnAt.plain {K : PySem.W.Frag} {a0 a : Addr} {Hh H : Hp} {d : PyData} (h : OwnAt K a0 Hh H a d) : ∃ o, H a = some o ∧ plainO o := by
  cases d with
  | list ds => obtain ⟨xs, h, _⟩ := h; exact ⟨_, h, True.intro⟩
  | dict ps =>
    rcases h with ⟨xs, h, _⟩ | ⟨xs, h, _⟩
    · exact ⟨_, h, True.intro⟩
    · exact ⟨_, h, True.intro⟩
  | _ => exact h.elim
theorem tabs_keepO {T : List (Addr × Str)} {H H1 : Hp} (t : LamX.Tabs T H) (k : ∀ b o, H b = some o → ¬ plainO o → H1 b = some o) : LamX.Tabs T H1 := fun p hp => by
  obtain ⟨ps, h1, h2, h3⟩ := t p hp
  refine ⟨ps, k _ _ h1 (fun z => z), h2, fun pos cv hc => ?_⟩
  obtain ⟨cc, e1, e2⟩ := h3 pos cv hc
  exact ⟨cc, e1, k _ _ e2 (fun z => z)⟩
section
variable {K : PySem.W.Frag} {c : Cfg} {a0 : Addr} {S : List Addr} {H0 Vi H : Hp} {A : List (Nat × Addr)} {ρ : Env} {R : Row} {σ : L2.St} {O : List Nat}
theorem Wd.putO (w : Wd K c a0 S H0 H R) {a : Addr} {o o' : HO} (hf : Fr H0 a) (h : H a = some o) (hp : plainO o) (ha : a ≠ a0) : Wd K c a0 S H0 (upd H a o') R where
  a0S := w.a0S
  sS := w.sS
  gr := fun b u nb e n => by
    rw [upd_ne fun z => by subst z; exact hf u e n]
    exact w.gr b u nb e n
  row := by
    obtain ⟨sc, e, f⟩ := w.row
    refine ⟨sc, by rw [upd_ne (Ne.symm ha)]; exact e, f.mono fun ob u z => ?_⟩
    rw [upd_ne fun q => by subst q; rw [h] at z; cases z; exact hp]
    exact z
  tabs := tabs_keepO w.tabs fun b u e n => by
    rw [upd_ne fun q => by subst q; rw [h] at e; cases e; exact n hp]
    exact e
/-- the object of the slot i is changed -/
theorem StA.write (st : StA K c a0 S H0 Vi A ρ R σ H) {i : Nat} {a : Addr} (hp : (i, a) ∈ A) {o' : HO} {d' : PyData} (ho : OwnAt K a0 (hide H (A.map (·.2) ++ S)) (upd H a o') a d') : StA K c a0 S H0 Vi A (ρ.set i (some d')) R σ (upd H a o') := by
  obtain ⟨f, e1, d, e2, h⟩ := st.own _ hp
  obtain ⟨o, eo, po⟩ := h.plain
  have aS : a ∉ S := st.notS hp
  have aA : a ∈ A.map (·.2) := List.mem_map.mpr ⟨_, hp, rfl⟩
  have he : hide (upd H a o') (A.map (·.2) ++ S) = hide H (A.map (·.2) ++ S) := by
    funext b
    by_cases hb : b ∈ A.map (·.2) ++ S
    · rw [hide_in hb, hide_in hb]
    · rw [hide_out hb, hide_out hb, upd_ne fun z => hb (by rw [z]; exact List.mem_append_left _ aA)]
  have hi : i < ρ.length := (List.getElem?_eq_some_iff.mp e2).1
  refine ⟨st.w.putO f eo po fun z => aS (by rw [z]; exact st.w.a0S), st.nd1, st.nd2, fun p hp' => ?_, by rw [List.length_set]; exact st.len, fun j e hj hn => ?_, by rw [he]; exact st.vis⟩
  · rw [he]
    by_cases hpi : p.1 = i
    · have e3 : p = (i, a) := by
        obtain ⟨x, hx, ex⟩ := List.mem_iff_getElem.mp hp'
        obtain ⟨y, hy, ey⟩ := List.mem_iff_getElem.mp hp
        have : (A.map (·.1))[x]'(by simpa using hx) = (A.map (·.1))[y]'(by simpa using hy) := by simp [ex, ey, hpi]
        have := (List.getElem_inj st.nd1).mp this
        subst this
        rw [← ex, ← ey]
      subst e3
      exact ⟨f, e1, d', by rw [List.getElem?_set_self hi], ho⟩
    · obtain ⟨f', e1', d2, e2', h2⟩ := st.own p hp'
      refine ⟨f', e1', d2, by rw [List.getElem?_set_ne (Ne.symm hpi)]; exact e2', ?_⟩
      have pa : p.2 ≠ a := fun z => hpi (by
        obtain ⟨x, hx, ex⟩ := List.mem_iff_getElem.mp hp'
        obtain ⟨y, hy, ey⟩ := List.mem_iff_getElem.mp hp
        have : (A.map (·.2))[x]'(by simpa using hx) = (A.map (·.2))[y]'(by simpa using hy) := by simp [ex, ey, z]
        have := (List.getElem_inj st.nd2).mp this
        subst this
        rw [← ex, ey])
      exact h2.mono (Sub.refl _) fun o e _ => by rw [upd_ne pa]; exact e
  · rw [he]
    have ni : j ≠ i := fun z => hn (by rw [z]; exact List.mem_map.mpr ⟨_, hp, rfl⟩)
    rw [List.getElem?_set_ne (Ne.symm ni)] at hj
    exact st.rest j e hj hn
theorem StOk.write (st : StA K c a0 S H0 Vi A ρ R σ H) (h1 : ∀ i ∈ O, ∀ d, ρ[i]? = some (some d) → i ∈ A.map (·.1)) (h2 : ∀ i ∈ A.map (·.1), i ∈ O) {i : Nat} {a : Addr} (hp : (i, a) ∈ A) {o' : HO} {d' : PyData} (ho : OwnAt K a0 (hide H (A.map (·.2) ++ S)) (upd H a o') a d') :
    StOk K c a0 S H0 Vi O (ρ.set i (some d')) R σ (upd H a o') := by
  refine ⟨A, st.write hp ho, fun j hj d h => ?_, h2⟩
  by_cases e : j = i
  · subst e; exact List.mem_map.mpr ⟨_, hp, rfl⟩
  · rw [List.getElem?_set_ne (Ne.symm e)] at h
    exact h1 j hj d h
/-- the owned object of a slot that is set -/
theorem StA.find (st : StA K c a0 S H0 Vi A ρ R σ H) (h1 : ∀ i ∈ O, ∀ d, ρ[i]? = some (some d) → i ∈ A.map (·.1)) {i : Nat} (hi : i ∈ O) {d : PyData} (h : ρ[i]? = some (some d)) :
    ∃ a, (i, a) ∈ A ∧ σ[i]? = some (some (.ref a)) ∧ OwnAt K a0 (hide H (A.map (·.2) ++ S)) H a d := by
  obtain ⟨p, hp, e⟩ := List.mem_map.mp (h1 i hi d h)
  obtain ⟨f, e1, d', e2, ho⟩ := st.own p hp
  subst e
  rw [h] at e2
  cases e2
  exact ⟨p.2, hp, e1, ho⟩
end
section
variable {X : Cx} {c : Cfg} {E : XK} {OL O O1 O2 O' : List Nat} {pos : Pos}
/-! ### append, extend -/
/-- what stands at the slot, a list -/
def lstAt (ρ : Env) (i : Nat) : Option (List PyData) := match ρ[i]?.join with
  | some (.list ds) => some ds
  | _ => none
theorem lstAt_some {ρ : Env} {i : Nat} {ds : List PyData} (h : lstAt ρ i = some ds) : ρ[i]? = some (some (.list ds)) := by
  unfold lstAt at h
  split at h
  · cases h; exact join_some (by assumption)
  · cases h
def sApp (i : Nat) (e : Den) : DenS := fun ρ R => (ofO (lstAt ρ i) R).bind fun ds R0 => (e ρ R0).bind fun v R1 => if pureD v && decide (ds.length < sizeLine) then .ok (.nx (ρ.set i (some (.list (ds ++ [v]))))) R1 else .stuck
theorem ds_app (i : Nat) {x : Str} {e : Expr} {d : Den} {p1 apos cpos : Pos} (h : DE X c E e d) (hO : i ∈ O := by decide) (hN : X.N[i]? = some x := by rfl) (hv : Vis X.env.scope x := by first | exact Or.inl rfl | exact Or.inr (Or.inl rfl) | exact Or.inr (Or.inr rfl)) (hd : (x == ("__debug__" : Str)) = false := by decide) (hcd : (x == ("__classdict__" : Str)) = false := by decide)
    (hbase : attributeBase (.Name x p1) "append" X.env (eval (.Name x p1) X.env) = eval (.Name x p1) X.env := by rfl)
    (hfew : ((backTo cpos (starEach [e] X.env)).all (fun x => !x.1) && (backToKw cpos (keywordEach [] X.env)).all (fun x => x.1.isSome) && decide (([e] : List Expr).length + ([] : List Keyword).length + (if ([] : List Keyword).isEmpty then 0 else 1) < 30)) = true := by rfl)
    (hline : (apos.endLine == cpos.line) = true := by rfl) (hs : starEach [e] X.env = (false, eval e X.env) :: starEach [] X.env := by rfl) (hplain : (backTo cpos (starEach [] X.env)).any (·.1) = false := by rfl) :
    DS X c E OL O O (.Expr (.Call (.Attribute (.Name x p1) "append" apos) [e] [] cpos) pos) (sApp i d) := by
  refine PS.imp (ps_expr (pe_bm PySem.F.plainAttrs_list PySem.F.slot_list_append PySem.F.type_list_append mt_append (pe_var hN hv hd hcd) (pa_cons h pa_nil hs) hbase hfew hline hs hplain)) fun D σ H ⟨a0, S, H0, Vi, ρ, R, st, p⟩ => ?_
  obtain ⟨ds, hl, p⟩ := Ends.ofO (Ends.bind p)
  have hρ := lstAt_some hl
  obtain ⟨A, sa, h1, h2⟩ := id st
  obtain ⟨a, hA, hσ, xs, hH, rA⟩ := sa.find h1 hO hρ
  refine ⟨.ref a, hσ, .inl ⟨rfl, xs, .inl (.inl hH)⟩, ?_⟩
  refine tD_st st (Ends.bind p) fun v R' q u H' w' st' r => ?_
  split at q
  · rename_i hc
    rw [Bool.and_eq_true, decide_eq_true_eq] at hc
    obtain ⟨A', sa', h1', h2'⟩ := st'
    obtain ⟨a', hA', hσ', xs', hH', rA'⟩ := sa'.find h1' hO hρ
    rw [hσ] at hσ'
    cases hσ'
    refine ⟨a, xs', u, rfl, rfl, hH', by rw [rA'.length]; exact hc.2, q σ _ (StOk.write sa' h1' h2' hA' ⟨_, upd_same, rA'.append (.cons (sa'.pure r hc.1) .nil)⟩)⟩
  · exact q.elim
def sExt (i : Nat) (e : Den) : DenS := fun ρ R => (ofO (lstAt ρ i) R).bind fun ds R0 => (e ρ R0).bind fun v R1 => match v with
  | .list es => if pureA es && decide (ds.length + es.length ≤ sizeLine) then .ok (.nx (ρ.set i (some (.list (ds ++ es))))) R1 else .stuck
  | _ => .stuck
theorem ds_ext (i : Nat) {x : Str} {e : Expr} {d : Den} {p1 apos cpos : Pos} (h : DE X c E e d) (hO : i ∈ O := by decide) (hN : X.N[i]? = some x := by rfl) (hv : Vis X.env.scope x := by first | exact Or.inl rfl | exact Or.inr (Or.inl rfl) | exact Or.inr (Or.inr rfl)) (hd : (x == ("__debug__" : Str)) = false := by decide) (hcd : (x == ("__classdict__" : Str)) = false := by decide)
    (hbase : attributeBase (.Name x p1) "extend" X.env (eval (.Name x p1) X.env) = eval (.Name x p1) X.env := by rfl)
    (hfew : ((backTo cpos (starEach [e] X.env)).all (fun x => !x.1) && (backToKw cpos (keywordEach [] X.env)).all (fun x => x.1.isSome) && decide (([e] : List Expr).length + ([] : List Keyword).length + (if ([] : List Keyword).isEmpty then 0 else 1) < 30)) = true := by rfl)
    (hline : (apos.endLine == cpos.line) = true := by rfl) (hs : starEach [e] X.env = (false, eval e X.env) :: starEach [] X.env := by rfl) (hplain : (backTo cpos (starEach [] X.env)).any (·.1) = false := by rfl) :
    DS X c E OL O O (.Expr (.Call (.Attribute (.Name x p1) "extend" apos) [e] [] cpos) pos) (sExt i d) := by
  refine PS.imp (ps_expr (pe_bm PySem.F.plainAttrs_list PySem.F.slot_list_extend PySem.F.type_list_extend mt_extend (pe_var hN hv hd hcd) (pa_cons h pa_nil hs) hbase hfew hline hs hplain)) fun D σ H ⟨a0, S, H0, Vi, ρ, R, st, p⟩ => ?_
  obtain ⟨ds, hl, p⟩ := Ends.ofO (Ends.bind p)
  have hρ := lstAt_some hl
  obtain ⟨A, sa, h1, h2⟩ := id st
  obtain ⟨a, hA, hσ, xs, hH, rA⟩ := sa.find h1 hO hρ
  refine ⟨.ref a, hσ, .inl ⟨rfl, xs, .inl (.inl hH)⟩, ?_⟩
  refine tD_st st (Ends.bind p) fun v R' q u H' w' st' r => ?_
  split at q
  · split at q
    · rename_i hc
      rw [Bool.and_eq_true, decide_eq_true_eq] at hc
      obtain ⟨A', sa', h1', h2'⟩ := st'
      obtain ⟨a', hA', hσ', xs', hH', rA'⟩ := sa'.find h1' hO hρ
      rw [hσ] at hσ'
      cases hσ'
      obtain ⟨b, ys, rfl, hb, rB⟩ := r.list_inv
      refine ⟨a, b, xs', ys, rfl, rfl, hH', (of_hide hb).2, by rw [rA'.length, rB.length]; exact hc.2, q σ _ (StOk.write sa' h1' h2' hA' ⟨_, upd_same, rA'.append (sa'.pureA rB hc.1)⟩)⟩
    · exact q.elim
  · exact q.elim

/-! ### x[k] = e -/
def setD (x k v : PyData) : Option PyData := match x, k with
  | .list ds, .int i => (ixN ds.length i).map fun j => .list (ds.set j v)
  | .dict ps, k => if kinOk ps k && decide (ps.length < sizeLine) then some (.dict (dput ps k v)) else none
  | _, _ => none
/-- the store to an owned object, by values -/
def rSetD (K : PySem.W.Frag) : V → V → V → Hp → (Hp → Prop) → Prop := fun o y v H Q => ∃ a a0 S d k e d', o = .ref a ∧ OwnAt K a0 (hide H S) H a d ∧ a ∈ S ∧ Rep K a0 (hide H S) y k ∧ Rep K a0 (hide H S) v e ∧ setD d k e = some d' ∧
  ∀ o', OwnAt K a0 (hide H S) (upd H a o') a d' → Q (upd H a o')
theorem relabel {pins : List (Addr × Obj)} {σ : L2.St} {H : Hp} {s : Shared} {a : Addr} {o o' : HO} (I : Inv X pins σ H s) (h : H a = some o) (hm : Mut (some o)) (x : ObjOk X.prog X.w H s.heap a o') (hg : ∃ u, s.heap.get? a = some u) : Inv X pins σ (upd H a o') s :=
  I.write (x := a) (e := a) (h' := s.heap) (t' := s.toks) (by rw [h]; exact hm) (.inl rfl) (fun _ _ _ q => q) hg (x.stay (fun b u _ q => q) (fun b q => by
    rw [upd_ne fun z => by subst z; rw [h] at q; cases q; exact hm]
    exact q) fun b xs q => by
    rw [upd_ne fun z => by subst z; rw [h] at q; cases q; exact hm]
    exact q)
theorem relabel_TK {pins : List (Addr × Obj)} {σ : L2.St} {H : Hp} {s : Shared} {a : Addr} (I : Inv X pins σ H s) (h : H a = some (.dT [])) : Inv X pins σ (upd H a (.dK [])) s :=
  relabel I h True.intro (empty_TK (I.hok a _ h)) (by obtain ⟨_, _, _, _, o, _, _, e, _⟩ := (show ObjOk X.prog X.w H s.heap a (.dT []) from I.hok a _ h); exact ⟨o, e⟩)
theorem relabel_KT {pins : List (Addr × Obj)} {σ : L2.St} {H : Hp} {s : Shared} {a : Addr} (I : Inv X pins σ H s) (h : H a = some (.dK [])) : Inv X pins σ (upd H a (.dT [])) s :=
  relabel I h True.intro (empty_KT (I.hok a _ h)) (by obtain ⟨_, _, _, _, o, _, _, e, _⟩ := (show ObjOk X.prog X.w H s.heap a (.dK []) from I.hok a _ h); exact ⟨o, e⟩)
theorem set_data (hu : X.A.units + 1 < cLine) : PSet X (rSetD X.K) := by
  rintro pins s σ H o y v ov iv u Q I ro ry rv ⟨a, a0, S, d, k, e, d', rfl, ow, aS, rk, re, hs, q⟩
  cases (show ov = Value.ref a from ro)
  unfold setD at hs
  split at hs
  · rename_i ds i
    obtain ⟨j, hj, e'⟩ := Option.map_eq_some_iff.mp hs
    subst e'
    obtain ⟨xs, h, r⟩ := ow
    have := rk.int_inv; subst y
    exact set_list pins s σ H _ _ v _ iv u Q I (show RelV (.ref a) (.ref a) from rfl) ry rv ⟨a, xs, i, j, rfl, rfl, h, by rw [r.length]; exact hj, q _ ⟨_, upd_same, r.set re j⟩⟩
  · split at hs
    · rename_i kd ps hk
      cases hs
      rw [Bool.and_eq_true, decide_eq_true_eq] at hk
      rcases kin_cases hk.1 with ⟨kk, rfl, hk2⟩ | ⟨kk, rfl, hk2⟩
      · have := key_data rk; subst y
        have fin : ∀ (H1 : Hp) (kvs : List (Key × V)), Inv X pins σ H1 s → H1 a = some (.dK kvs) → (∀ o', upd H1 a o' = upd H a o') → RepK X.K a0 (hide H S) kvs ps → wpAny (model X.prog X.w) X.A (setItem (.ref a) iv u) (fun _ s' => ∃ H', Inv X pins σ H' s' ∧ Q H') X.xe s := by
          intro H1 kvs I1 h1 hup r
          refine d_setItem hu I1 (DPut.k h1 (by rw [r.length]; exact hk.2)) ry rv fun s' I' => ⟨_, I', ?_⟩
          rw [hup]
          exact q _ (.inl ⟨_, upd_same, r.put kk re⟩)
        rcases ow with ⟨kvs, h, r⟩ | ⟨kvs, h, r⟩
        · exact fin H kvs I h (fun _ => rfl) r
        · obtain ⟨e1, e2⟩ := repT_noK r hk2
          subst e1 e2
          exact fin _ [] (relabel_TK I h) upd_same (fun _ => upd_upd) .nil
      · obtain ⟨b, rfl, eb⟩ := keyT_data rk
        have fin : ∀ (H1 : Hp) (kvs : List (List Key × V)), Inv X pins σ H1 s → H1 a = some (.dT kvs) → H1 b = some (.tup (kk.map kV)) → (∀ o', upd H1 a o' = upd H a o') → RepT X.K a0 (hide H S) kvs ps → wpAny (model X.prog X.w) X.A (setItem (.ref a) iv u) (fun _ s' => ∃ H', Inv X pins σ H' s' ∧ Q H') X.xe s := by
          intro H1 kvs I1 h1 hb hup r
          refine d_setItem hu I1 (DPut.t h1 hb (by rw [r.length]; exact hk.2)) ry rv fun s' I' => ⟨_, I', ?_⟩
          rw [hup]
          exact q _ (.inr ⟨_, upd_same, r.put kk re⟩)
        rcases ow with ⟨kvs, h, r⟩ | ⟨kvs, h, r⟩
        · obtain ⟨e1, e2⟩ := repK_noT r hk2
          subst e1 e2
          refine fin _ [] (relabel_KT I h) upd_same ?_ (fun _ => upd_upd) .nil
          rw [upd_ne fun z => by subst z; rw [h] at eb; cases eb]
          exact eb
        · exact fin H kvs I h eb (fun _ => rfl) r
    · cases hs
  · cases hs
def valAt (ρ : Env) (i : Nat) : Option PyData := ρ[i]?.join
def sSetI (i : Nat) (ke : Den) (e : Den) : DenS := fun ρ R => (e ρ R).bind fun v R1 => (ofO (valAt ρ i) R1).bind fun x R2 => (ke ρ R2).bind fun k R3 => if pureD v then (ofO (setD x k v) R3).bind fun d R4 => .ok (.nx (ρ.set i (some d))) R4 else .stuck
/-- a key, an index is looked at, no more: a copy of it that leans on nothing -/
theorem setD_key {x k v d : PyData} (h : setD x k v = some d) : pureD k = true := by
  unfold setD at h
  split at h
  · rfl
  · split at h
    · rename_i hk
      rw [Bool.and_eq_true] at hk
      rcases kin_cases hk.1 with ⟨kk, rfl, _⟩ | ⟨kk, rfl, _⟩
      · cases kk <;> rfl
      · have : ∀ l : List Key, pureA (l.map keyD) = true := by
          intro l
          induction l with
          | nil => rfl
          | cons a l ih => cases a <;> (rw [List.map_cons, pureA, ih]; rfl)
        exact this kk
    · cases h
  · cases h
theorem ds_setI (i : Nat) {x : Str} {k e : Expr} {dk d : Den} {p1 tpos : Pos} (hu : X.A.units + 1 < cLine) (h : DE X c E e d) (hk : DE X c E k dk) (hO : i ∈ O := by decide) (hN : X.N[i]? = some x := by rfl) (hv : Vis X.env.scope x := by first | exact Or.inl rfl | exact Or.inr (Or.inl rfl) | exact Or.inr (Or.inr rfl)) (hd : (x == ("__debug__" : Str)) = false := by decide) (hcd : (x == ("__classdict__" : Str)) = false := by decide)
    (hs : swapsWithSole [.Subscript (.Name x p1) k tpos] e pos.line X.env = pure false := by rfl) (hw : swappedStores [.Subscript (.Name x p1) k tpos] e X.env = pure none := by rfl) (h1 : (assignEach [.Subscript (.Name x p1) k tpos] X.env).map (·.2) = [assign (.Subscript (.Name x p1) k tpos) X.env] := by rfl)
    (ha : ∀ v, assign (.Subscript (.Name x p1) k tpos) X.env v = (do
      let ov ← holding [v] (eval (.Name x p1) X.env)
      let iv ← holding [v, ov] (eval k X.env)
      standAt tpos
      holding [v, ov, iv] (setItem ov iv v)
      release [v, ov, iv] []) := by intro _; rfl) :
    DS X c E OL O O (.Assign [.Subscript (.Name x p1) k tpos] e pos) (sSetI i dk d) := by
  refine PS.imp (ps_asg h (pg_sub (pe_var hN hv hd hcd) hk (set_data hu) ha) hs hw h1) fun D σ H ⟨a0, S, H0, Vi, ρ, R, st, p⟩ => ?_
  refine tD_st st (Ends.bind p) fun v R1 p v1 H1 w1 st1 r1 => ?_
  obtain ⟨x0, hx, p⟩ := Ends.ofO (Ends.bind p)
  obtain ⟨A, sa, h1, h2⟩ := id st1
  obtain ⟨a, hA, hσ, ho⟩ := sa.find h1 hO (join_some hx)
  refine ⟨.ref a, hσ, ?_⟩
  refine tD_st st1 (Ends.bind p) fun k R3 p v2 H2 w2 st2 r2 => ?_
  split at p
  · rename_i hp
    obtain ⟨d', hd', q⟩ := Ends.ofO (Ends.bind p)
    obtain ⟨A2, sa2, h12, h22⟩ := st2
    obtain ⟨a2, hA2, hσ2, ho2⟩ := sa2.find h12 hO (join_some hx)
    rw [hσ] at hσ2
    cases hσ2
    refine ⟨a, a0, A2.map (·.2) ++ S, x0, k, v, d', rfl, ho2, List.mem_append_left _ (List.mem_map.mpr ⟨_, hA2, rfl⟩), sa2.pure r2 (setD_key hd'), sa2.pure (r1.mono w2.sub) hp, hd', fun o' ho' => q σ _ (StOk.write sa2 h12 h22 hA2 ho')⟩
  · exact p.elim
end
end Ev

/-! Ev: loops -/
namespace Ev
open PySem PySem.Spec PyProof.Rows L2
def forM (f : PyData → Env → Row → Res Fl) : List PyData → Env → Row → Res Fl
  | [], ρ, R => .ok (.nx ρ) R
  | d :: ds, ρ, R => (f d ρ R).bind fun fl R1 => match fl with
    | .nx ρ1 => forM f ds ρ1 R1
    | .ct ρ1 => forM f ds ρ1 R1
    | .bk ρ1 => .ok (.nx ρ1) R1
    | .rt v => .ok (.rt v) R1
def turnF (t : Tgt) (body : DenS) (d : PyData) (ρ : Env) (R : Row) : Res Fl := match t d ρ with
  | some ρ' => body ρ' R
  | none => .stuck
/-- for target in it: body; it does not see what is owned -/
def sForM (ks : List Nat) (it : DenL) (t : Tgt) (body : DenS) : DenS := fun ρ R => (it (wipeE ρ ks) R).bind fun ds R1 => forM (turnF t body) ds ρ R1
/-- it sees all, what it gives is pure -/
def sFor (it : DenL) (t : Tgt) (body : DenS) : DenS := fun ρ R => (it ρ R).bind fun ds R1 => forM (turnF t body) ds ρ R1
section
variable {K : PySem.W.Frag} {c : Cfg} {a0 : Addr} {S : List Addr} {H0 Vi V2 H : Hp} {A : List (Nat × Addr)} {ρ : Env} {R : Row} {σ : L2.St} {O : List Nat}
theorem StA.revis (st : StA K c a0 S H0 Vi A ρ R σ H) (h : Sub V2 (hide H (A.map (·.2) ++ S))) : StA K c a0 S H0 V2 A ρ R σ H := ⟨st.w, st.nd1, st.nd2, st.own, st.len, st.rest, h⟩
theorem StOk.less (st : StOk K c a0 S H0 V2 O ρ R σ H) (h : Sub Vi V2) : StOk K c a0 S H0 Vi O ρ R σ H := by
  obtain ⟨A, sa, h1, h2⟩ := st
  exact ⟨A, sa.revis (h.trans sa.vis), h1, h2⟩
end
section
variable {X : Cx} {c : Cfg} {E : XK} {OL O O1 O2 O' Ol : List Nat} {pos : Pos}
theorem for_go {K : PySem.W.Frag} {vs : List Nat} {t : Tgt} {body : DenS} {D : L2.Ends} {a0 : Addr} {S : List Addr} {H0 Vi H1 : Hp} {A : List (Nat × Addr)} {ρ : Env} {R1 : Row} {σ : L2.St} {J : It} {ds : List PyData} (tok : TgtOk vs t) (sa : StA K c a0 S H0 Vi A ρ R1 σ H1)
    (h1 : ∀ i ∈ Ol, ∀ d, ρ[i]? = some (some d) → i ∈ A.map (·.1)) (h2 : ∀ i ∈ A.map (·.1), i ∈ Ol) (wk : Walks K a0 (A.map (·.2) ++ S) J H1 ds) (p : Ends (forM (turnF t body) ds ρ R1) (EndF K c OL Ol D a0 S H0 Vi) (Ex K c E a0 S H0)) :
    ∃ W : Nat → Nat → L2.St → Hp → Prop, (∃ m, W 0 m σ H1) ∧ ∀ i m σ H, W i m σ H →
      (J.stop i H ∧ D.nx σ H) ∨ (J.go i H ∧ ∃ N : L2.St → Hp → Prop, (∀ σ' H', N σ' H' → ∃ m', m' < m ∧ W (i + 1) m' σ' H') ∧ ∀ x H', J.yld i H x H' → tG K vs t x σ H' fun σ2 H2 => tS K c E Ol (minus Ol vs) Ol body { D with nx := N, ct := N, bk := D.nx } σ2 H2) := by
  refine ⟨fun i m σ H => m = ds.length - i ∧ i ≤ ds.length ∧ ∃ ρ R, StOk K c a0 S H0 (hide H1 (A.map (·.2) ++ S)) Ol ρ R σ H ∧ Ends (forM (turnF t body) (ds.drop i) ρ R) (EndF K c OL Ol D a0 S H0 Vi) (Ex K c E a0 S H0),
    ⟨ds.length, by simp, Nat.zero_le _, ρ, R1, ⟨A, sa.revis (Sub.refl _), h1, h2⟩, by rw [List.drop_zero]; exact p⟩, ?_⟩
  rintro i m σ H ⟨rfl, hi, ρ, R, ⟨A2, sa2, h12, h22⟩, q⟩
  have hV : Sub Vi (hide H1 (A.map (·.2) ++ S)) := sa.vis
  have wk2 := wk (A2.map (·.2) ++ S)
  have hG : Sub (hide H1 (A.map (·.2) ++ S)) (hide H (A2.map (·.2) ++ S)) ∧ ∀ b ∈ A2.map (·.2) ++ S, H b ≠ none := ⟨sa2.vis, sa2.wdA.ne⟩
  by_cases hlt : i < ds.length
  case neg =>
    have e : i = ds.length := by omega
    subst e
    rw [List.drop_length] at q
    exact .inl ⟨wk2.stops H hG, q σ H (StOk.less ⟨A2, sa2, h12, h22⟩ hV)⟩
  rw [List.drop_eq_getElem_cons hlt] at q
  refine .inr ⟨wk2.goes i H hlt hG, fun σ' H' => ∃ ρ R, StOk K c a0 S H0 (hide H1 (A.map (·.2) ++ S)) Ol ρ R σ' H' ∧ Ends (forM (turnF t body) (ds.drop (i + 1)) ρ R) (EndF K c OL Ol D a0 S H0 Vi) (Ex K c E a0 S H0),
    fun σ' H' h' => ⟨ds.length - (i + 1), by omega, rfl, hlt, h'⟩, fun x H' y => ?_⟩
  obtain ⟨hH', d, hd1, rd⟩ := wk2.yields i H x H' hlt hG y
  have ed : ds[i] = d := by
    have := List.getElem?_eq_getElem hlt
    rw [this] at hd1
    exact Option.some.inj hd1
  rw [ed] at q
  have sa3 : StA K c a0 S H0 (hide H1 (A.map (·.2) ++ S)) A2 ρ R σ H' := by
    rcases hH' with e | ⟨T, ts, hT, e⟩
    · subst e; exact sa2
    · subst e; exact sa2.on (sa2.w.here.new hT)
  have q := Ends.bind q
  unfold turnF at q
  split at q
  · rename_i ρ' ht
    obtain ⟨o1, o2⟩ := tok _ _ _ ht
    refine ⟨a0, A2.map (·.2) ++ S, ρ, d, ρ', sa3.len, rd, ht, fun σ' l2 k2 r2 => ?_⟩
    obtain ⟨q1, q2⟩ := own_minus o2 h12 h22
    refine ⟨a0, S, H0, _, ρ', R, ⟨_, sa3.store o1 o2 l2 k2 r2, q1, q2⟩, q.mono (fun fl R2 z => ?_) fun _ _ z => z⟩
    cases fl with
    | nx ρ1 => exact fun σ4 H4 st4 => ⟨ρ1, R2, st4, z⟩
    | ct ρ1 => exact fun σ4 H4 st4 => ⟨ρ1, R2, st4, z⟩
    | bk ρ1 => exact fun σ4 H4 st4 => z σ4 H4 (st4.less hV)
    | rt v => exact z
  · exact q.elim
theorem ds_forM (ks : List Nat) {tg iter : Expr} {body : List Stmt} {vs : List Nat} {t : Tgt} {it : DenL} {db : DenS} (hp : PassesOwn (model X.prog X.w) X.A X.env X.xe) (hc : X.calm = true) (tok : TgtOk vs t) (hi : DI X c E tg iter it) (hg : DG X tg vs t) (hb : DSs X c E ks (minus ks vs) ks body db) (hk : ∀ i ∈ ks, i ∈ O := by decide)
    (hs : ∀ x, foldedSetIterable iter X.env x = pure x := by intro _; rfl) : DS X c E OL O ks (.For tg iter body [] pos) (sForM ks it t db) := by
  refine PS.imp (ps_for hp hc hi hg.pg hb hs) fun D σ H ⟨a0, S, H0, Vi, ρ, R, st, p⟩ => ?_
  obtain ⟨A, sa, h1, h2⟩ := st.drop hk
  refine ⟨a0, A.map (·.2) ++ S, wipeE ρ ks, R, sa.wdA, sa.envM h2, (Ends.bind p).mono (fun ds R1 q J H1 w1 wk => ?_) fun nm R1 x dx H' w' e => x dx H' (sa.w.trans (w'.less (fun b hb => List.mem_append_right _ hb) sa.w.a0S)) e⟩
  exact for_go tok (sa.on (w1.less (fun b hb => List.mem_append_right _ hb) sa.w.a0S)) h1 h2 wk q
/-- an iterator that leans on nothing that may change -/
def tDIP (K : PySem.W.Frag) (c : Cfg) (E : XK) (den : DenL) : TI := fun σ H Rr => ∃ a0 S ρ R, Wd K c a0 S H H R ∧ EnvR K a0 (hide H S) ρ σ ∧
  Ends (den ρ R) (fun ds R' => ∀ J H', Wd K c a0 S H H' R' → (∀ B : List Addr, (∀ b ∈ B, ∃ o, H b = some o ∧ notTbl o ∧ ∀ xs, o ≠ .tup xs) → Walks K a0 (B ++ S) J H' ds) → Rr J H') (Ex K c E a0 S H)
def DIP (X : Cx) (c : Cfg) (E : XK) (tg iter : Expr) (den : DenL) : Prop := PI X tg iter (tDIP X.K c E den)
theorem ds_for {tg iter : Expr} {body : List Stmt} {vs : List Nat} {t : Tgt} {it : DenL} {db : DenS} (hp : PassesOwn (model X.prog X.w) X.A X.env X.xe) (hc : X.calm = true) (tok : TgtOk vs t) (hi : DIP X c E tg iter it) (hg : DG X tg vs t) (hb : DSs X c E O (minus O vs) O body db)
    (hs : ∀ x, foldedSetIterable iter X.env x = pure x := by intro _; rfl) : DS X c E OL O O (.For tg iter body [] pos) (sFor it t db) := by
  refine PS.imp (ps_for hp hc hi hg.pg hb hs) fun D σ H ⟨a0, S, H0, Vi, ρ, R, st, p⟩ => ?_
  obtain ⟨A, sa, h1, h2⟩ := st
  refine ⟨a0, S, ρ, R, sa.w.here, sa.env, (Ends.bind p).mono (fun ds R1 q J H1 w1 wk => ?_) fun _ _ x => x.back sa.w⟩
  refine for_go tok (sa.on w1) h1 h2 (wk _ fun b hb => ?_) q
  obtain ⟨o, e, n, nt, _⟩ := sa.as b hb
  exact ⟨o, e, n, nt⟩
def lPure (l : DenL) : DenL := fun ρ R => (l ρ R).bind fun ds R1 => if pureA ds then .ok ds R1 else .stuck
/-- a new list of pure things -/
theorem dip_new {tg e : Expr} {l : DenL} (h : DN X c E e l) : DIP X c E tg e (lPure l) := by
  refine PI.imp (pi_list h) fun σ H Q ⟨a0, S, ρ, R, w, en, p⟩ => ?_
  refine ⟨a0, S, ρ, R, w, en, ends_next p fun ds R1 q p xs H1 hp w1 h1 rA => ?_⟩
  split at q
  · rename_i hpu
    refine ⟨p, rfl, ⟨xs, .inl (.inl h1)⟩, q _ _ w1 fun B hB => ?_⟩
    have nB : p ∉ B := fun z => by
      obtain ⟨o, e, n, _⟩ := hB p z
      exact hp o e n
    have nS : p ∉ S := fun z => by
      obtain ⟨o, e, n⟩ := w.sS p z
      exact hp o e n
    refine walks_list (by rw [hide_out (by simp [nB, nS])]; exact h1) ?_
    refine RepA.pure (fun b hb o e xs z => ?_) (rA.mono (hide_more fun b hb => List.mem_cons_of_mem _ hb)) hpu
    obtain ⟨o', e', n, nt⟩ := hB b hb
    by_cases ea : b = a0
    · subst ea
      obtain ⟨sc, h2, _⟩ := w1.row
      rw [h2] at e
      cases e
      cases z
    · have := w1.gr b o' ea e' n
      rw [this] at e
      cases e
      exact nt xs z
  · exact q.elim
/-- pure data -/
def lSeqP (d : Den) : DenL := fun ρ R => (d ρ R).bind fun x R1 => match x with | .tuple ds => if pureA ds then .ok ds R1 else .stuck | _ => .stuck
theorem dip_tup {tg e : Expr} {d : Den} (h : DE X c E e d) : DIP X c E tg e (lSeqP d) := by
  refine PI.imp (pi_tup h) fun σ H Q ⟨a0, S, ρ, R, w, en, p⟩ => ?_
  refine tD_of w en (ends_next p fun x R1 q v H1 w1 r1 => ?_)
  split at q
  · split at q
    · rename_i hpu
      obtain ⟨a, xs, rfl, h1, rA⟩ := r1.tup_inv
      refine ⟨a, rfl, ⟨xs, .inl (.inl (of_hide h1).2)⟩, q _ _ w1 fun B hB => ?_⟩
      have hS : ∀ b ∈ B, ∀ o, H1 b = some o → ∀ xs, o ≠ .tup xs := fun b hb o e xs z => by
        obtain ⟨o', e', n, nt⟩ := hB b hb
        by_cases ea : b = a0
        · subst ea
          obtain ⟨sc, h2, _⟩ := w1.row
          rw [h2] at e
          cases e
          cases z
        · have := w1.gr b o' ea e' n
          rw [this] at e
          cases e
          exact nt xs z
      have r2 : Rep X.K a0 (hide H1 (B ++ S)) (.ref a) (.tuple _) := Rep.pure hS r1 (show pureD (.tuple _) = true by unfold pureD; exact hpu)
      obtain ⟨a', xs', e', h1', rA'⟩ := r2.tup_inv
      cases e'
      exact walks_tup h1' rA'
    · exact q.elim
  · exact q.elim
theorem dip_range1 {tg a : Expr} {l : DenL} {p pos : Pos} (ha : DEs X c E [a] l) (hm : X.mg "range" = none) (hg : Gl X "range" := by rfl) (hs : starEach [a] X.env = [(false, eval a X.env)] := by rfl) : DIP X c E tg (.Call (.Name "range" p) [a] [] pos) (fun ρ R => (l ρ R).bind fun xs R1 => if xs.length = 1 then ofO (rangeD xs) R1 else .stuck) := by
  refine PI.imp (pi_range1 hg hm ha hs) fun σ H Q ⟨a0, S, ρ, R, w, en, p⟩ => tDL_of w en (ends_next p fun xs R1 p vs H1 w1 r1 => ?_)
  split at p
  · rename_i hl
    obtain ⟨ds, e, q⟩ := Ends.ofO p
    unfold rangeD at e
    split at e
    · split at e
      · rename_i hj
        cases e
        obtain ⟨v, rfl, r9⟩ := repA_one r1
        have := r9.int_inv; subst v
        exact ⟨_, rfl, hj.1, hj.2, q _ _ w1 fun _ _ => walks_range⟩
      · cases e
    · cases hl
    · cases hl
    · cases e
  · exact p.elim
theorem dip_range2 {tg a b : Expr} {l : DenL} {p pos : Pos} (ha : DEs X c E [a, b] l) (hm : X.mg "range" = none) (hg : Gl X "range" := by rfl) (hs : starEach [a, b] X.env = [(false, eval a X.env), (false, eval b X.env)] := by rfl) (hs2 : starEach [b] X.env = [(false, eval b X.env)] := by rfl) :
    DIP X c E tg (.Call (.Name "range" p) [a, b] [] pos) (fun ρ R => (l ρ R).bind fun xs R1 => if xs.length = 2 then ofO (rangeD xs) R1 else .stuck) := by
  refine PI.imp (pi_range2 hg hm ha hs hs2) fun σ H Q ⟨a0, S, ρ, R, w, en, p⟩ => tDL_of w en (ends_next p fun xs R1 p vs H1 w1 r1 => ?_)
  split at p
  · rename_i hl
    obtain ⟨ds, e, q⟩ := Ends.ofO p
    unfold rangeD at e
    split at e
    · cases hl
    · split at e
      · rename_i hj
        cases e
        obtain ⟨v, u, rfl, r8, r9⟩ := repA_two r1
        have := r8.int_inv; subst v
        have := r9.int_inv; subst u
        exact ⟨_, _, rfl, ⟨hj.1.1, hj.1.2, hj.2.1, hj.2.2⟩, q _ _ w1 fun _ _ => walks_range⟩
      · cases e
    · cases hl
    · cases e
  · exact p.elim
theorem dip_range3 {tg a b d : Expr} {l : DenL} {p pos : Pos} (ha : DEs X c E [a, b, d] l) (hm : X.mg "range" = none) (hg : Gl X "range" := by rfl) (hs : starEach [a, b, d] X.env = (false, eval a X.env) :: starEach [b, d] X.env := by rfl) (hpl : (backTo pos (starEach [b, d] X.env)).any (·.1) = false := by rfl) :
    DIP X c E tg (.Call (.Name "range" p) [a, b, d] [] pos) (fun ρ R => (l ρ R).bind fun xs R1 => if xs.length = 3 then ofO (rangeD xs) R1 else .stuck) := by
  refine PI.imp (pi_range3 hg hm ha hs hpl) fun σ H Q ⟨a0, S, ρ, R, w, en, p⟩ => tDL_of w en (ends_next p fun xs R1 p vs H1 w1 r1 => ?_)
  split at p
  · rename_i hl
    obtain ⟨ds, e, q⟩ := Ends.ofO p
    unfold rangeD at e
    split at e
    · cases hl
    · cases hl
    · split at e
      · rename_i hj
        cases e
        obtain ⟨v, u, z, rfl, r8, r9, r10⟩ := repA_three r1
        have := r8.int_inv; subst v
        have := r9.int_inv; subst u
        have := r10.int_inv; subst z
        exact ⟨_, _, _, _, rfl, RgC.neg hj.1.1 hj.1.2 hj.2.1 hj.2.2, q _ _ w1 fun _ _ => walks_rangeC⟩
      · cases e
    · cases e
  · exact p.elim

/-! ### while -/
def whileM (t : DenB) (body : DenS) : Nat → Env → Row → Res Fl
  | 0, _, _ => .stuck
  | n + 1, ρ, R => (t ρ R).bind fun b R1 => if b then (body ρ R1).bind fun fl R2 => match fl with
      | .nx ρ1 => whileM t body n ρ1 R2
      | .ct ρ1 => whileM t body n ρ1 R2
      | .bk ρ1 => .ok (.nx ρ1) R2
      | .rt v => .ok (.rt v) R2
    else .ok (.nx ρ) R1
def sWhile (n : Nat) (t : DenB) (body : DenS) : DenS := fun ρ R => whileM t body n ρ R
theorem ds_while (n : Nat) {t : Expr} {body : List Stmt} {dt : DenB} {db : DenS} (hp : PassesOwn (model X.prog X.w) X.A X.env X.xe) (ht : DT X c E t dt) (hb : DSs X c E O O O body db) : DS X c E OL O O (.While t body [] pos) (sWhile n dt db) := by
  refine PS.imp (ps_while hp ht hb) fun D σ H ⟨a0, S, H0, Vi, ρ, R, st, p⟩ => ?_
  refine ⟨fun m σ H => ∃ ρ R, StOk X.K c a0 S H0 Vi O ρ R σ H ∧ Ends (whileM dt db m ρ R) (EndF X.K c OL O D a0 S H0 Vi) (Ex X.K c E a0 S H0), ⟨n, ρ, R, st, p⟩, ?_⟩
  rintro m σ H ⟨ρ, R, st, p⟩
  cases m with
  | zero => exact p.elim
  | succ m =>
    refine tDB_st st (Ends.bind p) fun b R' q H' st' => ?_
    cases b with
    | false => exact q σ H' st'
    | true =>
      refine ⟨fun σ' H' => ∃ ρ R, StOk X.K c a0 S H0 Vi O ρ R σ' H' ∧ Ends (whileM dt db m ρ R) (EndF X.K c OL O D a0 S H0 Vi) (Ex X.K c E a0 S H0), fun σ' H' h => ⟨m, Nat.lt_succ_self m, h⟩, ?_⟩
      refine ⟨a0, S, H0, Vi, ρ, R', st', (Ends.bind q).mono (fun fl R2 z => ?_) fun _ _ z => z⟩
      cases fl with
      | nx ρ1 => exact fun σ4 H4 st4 => ⟨ρ1, R2, st4, z⟩
      | ct ρ1 => exact fun σ4 H4 st4 => ⟨ρ1, R2, st4, z⟩
      | bk ρ1 => exact fun σ4 H4 st4 => z σ4 H4 st4
      | rt v => exact z
/-! ### x += e, of ints -/
def ipD (f : Int → Int → Int) : PyData → PyData → Option PyData
  | .int a, .int b => some (.int (f a b))
  | _, _ => none
def sAug (i : Nat) (f : Int → Int → Int) (e : Den) : DenS := fun ρ R => (ofO (valAt ρ i) R).bind fun x R1 => (e ρ R1).bind fun y R2 => (ofO (ipD f x y) R2).bind fun z R3 => .ok (.nx (ρ.set i (some z))) R3
theorem ds_aug (i : Nat) {x : Str} {e : Expr} {op : Operator} {f : Int → Int → Int} {d : Den} {pos' : Pos} (ho : PIp X op (ipI f)) (hN : X.N.Nodup) (h : DE X c E e d) (hi : X.N[i]? = some x := by rfl) (hx : Loc X.env.scope x := by first | exact Or.inl rfl | exact Or.inr rfl) (hf : X.fn x = true ∨ X.env.scope.names.lookup x = some .local := by first | exact .inl rfl | exact .inr rfl) :
    DS X c E OL O (minus O [i]) (.AugAssign (.Name x pos') op e pos) (sAug i f d) := by
  refine PS.imp (ps_aug hN hi hx h ho hf) fun D σ H ⟨a0, S, H0, Vi, ρ, R, st, p⟩ => ?_
  obtain ⟨v, hv, p⟩ := Ends.ofO (Ends.bind p)
  have hρ := join_some hv
  have env0 : EnvR X.K a0 (hide H S) ρ σ := by obtain ⟨A, sa, _⟩ := st; exact sa.env
  obtain ⟨u, e1, r1⟩ := env0.2 i v hρ
  refine ⟨u, e1, tD_st st (Ends.bind p) fun y R2 p u2 H2 w2 st2 r2 => ?_⟩
  obtain ⟨z, hz, q⟩ := Ends.ofO (Ends.bind p)
  unfold ipD at hz
  split at hz
  · cases hz
    have := r1.int_inv; subst u
    have := r2.int_inv; subst u2
    refine ⟨_, _, rfl, rfl, ?_⟩
    obtain ⟨A, sa, h1, h2⟩ := st2
    have hlt : i < ρ.length := (List.getElem?_eq_some_iff.mp hρ).1
    have o2 : ∀ (zz : Option PyData) j, j ∉ [i] → (ρ.set i zz)[j]? = ρ[j]? := fun zz j hj => List.getElem?_set_ne fun z => hj (by rw [z]; exact List.mem_cons_self)
    obtain ⟨q1, q2⟩ := own_minus (o2 _) h1 h2
    refine q _ _ ⟨_, sa.store (vs := [i]) (by rw [List.length_set]) (o2 _) (by rw [List.length_set]) (fun j hj => List.getElem?_set_ne fun z => hj (by rw [z]; exact List.mem_cons_self)) fun j hj d' h => ?_, q1, q2⟩
    have : j = i := by simpa using hj
    subst this
    rw [List.getElem?_set_self hlt] at h
    cases h
    exact ⟨_, by rw [List.getElem?_set_self (by rw [← sa.len]; exact hlt)], .int _⟩
  · cases hz
end
end Ev

/-! Ev: the law's row -/
namespace Ev
open PySem PySem.Spec PyProof.Rows L2
theorem row_inv {K : PySem.W.Frag} {a0 : Addr} {H : Hp} {v : V} (r : Rep K a0 H v rowD) : v = .ref a0 := by
  obtain ⟨a, e, q⟩ := r.dict_inv
  rcases q with ⟨kvs, _, q⟩ | ⟨kvs, _, q⟩ | ⟨e2, _⟩
  · generalize e3 : [(PyData.none, PyData.none)] = ps at q
    cases q with
    | nil => cases e3
    | @cons k v vs d ds h r =>
      have e4 := congrArg Prod.fst (List.cons.inj e3).1
      cases k <;> cases e4
  · generalize e3 : [(PyData.none, PyData.none)] = ps at q
    cases q with
    | nil => cases e3
    | @cons k v vs d ds h r =>
      have e4 := congrArg Prod.fst (List.cons.inj e3).1
      cases e4
  · rw [e, e2]
/-- is the datum the row's mark -/
def isRow : PyData → Bool
  | .dict [(.none, .none)] => true
  | _ => false
theorem isRow_eq {d : PyData} (h : isRow d = true) : d = rowD := by
  unfold isRow at h
  split at h
  · rfl
  · cases h
def Row.get (R : Row) : Nat → Option Int
  | 1 => some R.i
  | 2 => some R.m
  | 3 => some R.c
  | _ => none
def Row.put (R : Row) : Nat → Int → Option Row
  | 1, z => some { R with i := z }
  | 2, z => some { R with m := z }
  | 3, z => some { R with c := z }
  | _, _ => none
def rowAt (ρ : Env) (i : Nat) : Option Unit := (ρ[i]?.join).bind fun d => if isRow d then some () else none
theorem rowAt_some {ρ : Env} {i : Nat} (h : rowAt ρ i = some ()) : ρ[i]? = some (some rowD) := by
  obtain ⟨d, h1, h2⟩ := Option.bind_eq_some_iff.mp h
  split at h2
  · rename_i hr
    rw [join_some h1, isRow_eq hr]
  · cases h2
section
variable {X : Cx} {c : Cfg} {E : XK} {OL O : List Nat} {pos : Pos}
/-- row[k] -/
def dRow (i k : Nat) : Den := fun ρ R => (ofO (rowAt ρ i) R).bind fun _ R => (ofO (R.get k) R).bind fun z R => .ok (.int z) R
theorem de_row (i k : Nat) {x : Str} {j} {p1 p2 : Pos} (hN : X.N[i]? = some x := by rfl) (hv : Vis X.env.scope x := by first | exact Or.inl rfl | exact Or.inr (Or.inl rfl) | exact Or.inr (Or.inr rfl)) (hd : (x == ("__debug__" : Str)) = false := by decide) (hcd : (x == ("__classdict__" : Str)) = false := by decide) :
    DE X c E (.Subscript (.Name x p1) (.Constant (.int (k : Nat)) j p2) pos) (dRow i k) := by
  refine PE.imp (pe_ix ix_list (pe_var hN hv hd hcd) pe_int (fun _ _ => rfl)) fun σ H Q ⟨a0, S, ρ, R, w, en, p⟩ => ?_
  obtain ⟨_, hr, p⟩ := Ends.ofO (Ends.bind p)
  obtain ⟨z, hz, q⟩ := Ends.ofO (Ends.bind p)
  obtain ⟨v, e1, r1⟩ := en.2 i _ (rowAt_some hr)
  have := row_inv r1; subst v
  obtain ⟨sc, h1, h2⟩ := w.row
  refine ⟨_, e1, a0, _, _, .int z, rfl, rfl, .inl (.inl h1), ?_, q _ H w (.int _)⟩
  unfold Row.get at hz
  split at hz <;> first | (cases hz; done) | (cases hz; rfl)
/-- len(row[0]) -/
def dRowLen (i : Nat) : Den := fun ρ R => (ofO (rowAt ρ i) R).bind fun _ R => .ok (.int R.ns.length) R
theorem de_rowLen (i : Nat) {x : Str} {j} {p p1 p2 p3 : Pos} (hm : X.mg "len" = none) (hg : Gl X "len" := by rfl) (hN : X.N[i]? = some x := by rfl) (hv : Vis X.env.scope x := by first | exact Or.inl rfl | exact Or.inr (Or.inl rfl) | exact Or.inr (Or.inr rfl)) (hd : (x == ("__debug__" : Str)) = false := by decide) (hcd : (x == ("__classdict__" : Str)) = false := by decide) :
    DE X c E (.Call (.Name "len" p) [.Subscript (.Name x p1) (.Constant (.int 0) j p2) p3] [] pos) (dRowLen i) := by
  refine PE.imp (pe_callB call_len_seq hg hm (by decide +kernel) (pa_cons (pe_ix ix_list (pe_var hN hv hd hcd) pe_int (fun _ _ => rfl)) pa_nil)) fun σ H Q ⟨a0, S, ρ, R, w, en, p⟩ => ?_
  obtain ⟨_, hr, q⟩ := Ends.ofO (Ends.bind p)
  obtain ⟨v, e1, r1⟩ := en.2 i _ (rowAt_some hr)
  have := row_inv r1; subst v
  obtain ⟨sc, h1, h2⟩ := w.row
  refine ⟨_, e1, a0, _, _, .ref sc, rfl, rfl, .inl (.inl h1), rfl, sc, _, rfl, .inl h2.sqL, ?_⟩
  rw [List.length_map]
  exact q _ H w (.int _)
/-- row[0][e] -/
def dRowCell (i : Nat) (e : Den) : Den := fun ρ R => (ofO (rowAt ρ i) R).bind fun _ R => (e ρ R).bind fun x R1 => match x with
  | .int k => (ofO (atI R1.ns k) R1).bind fun z R2 => .ok (.int z) R2
  | _ => .stuck
theorem wd_ns {K : PySem.W.Frag} {a0 : Addr} {S : List Addr} {H H1 : Hp} {R R1 : Row} (w : Wd K c a0 S H H R) (w1 : Wd K c a0 S H H1 R1) {sc : Addr} {xs : List V} (h : SqF K H sc xs) : SqF K H1 sc xs := by
  rcases h with ⟨o, h⟩ | h
  · refine .inl ⟨o, w1.gr sc _ (fun z => ?_) h nt_frz⟩
    obtain ⟨sc', h1, _⟩ := w.row
    rw [z, h1] at h
    cases h
  · exact .inr h
theorem de_rowCell (i : Nat) {x : Str} {j} {e : Expr} {d : Den} {p1 p2 p3 : Pos} (h : DE X c E e d) (hns : ∀ ρ R x R', d ρ R = .ok x R' → R' = R) (hs : PlainIx e := by exact fun _ _ => rfl) (hN : X.N[i]? = some x := by rfl) (hv : Vis X.env.scope x := by first | exact Or.inl rfl | exact Or.inr (Or.inl rfl) | exact Or.inr (Or.inr rfl)) (hd : (x == ("__debug__" : Str)) = false := by decide) (hcd : (x == ("__classdict__" : Str)) = false := by decide) :
    DE X c E (.Subscript (.Subscript (.Name x p1) (.Constant (.int 0) j p2) p3) e pos) (dRowCell i d) := by
  refine PE.imp (pe_ix ix_list (pe_ix ix_list (pe_var hN hv hd hcd) pe_int (fun _ _ => rfl)) h hs) fun σ H Q ⟨a0, S, ρ, R, w, en, p⟩ => ?_
  obtain ⟨_, hr, p2⟩ := Ends.ofO (Ends.bind p)
  clear p
  obtain ⟨v, e1, r1⟩ := en.2 i _ (rowAt_some hr)
  have := row_inv r1; subst v
  obtain ⟨sc, h1, h2⟩ := id w.row
  refine ⟨_, e1, a0, _, _, .ref sc, rfl, rfl, .inl (.inl h1), rfl, ?_⟩
  cases hd : d ρ R with
  | stuck => rw [hd] at p2; exact p2.elim
  | exc nm R1 =>
    rw [hd] at p2
    refine tD_of w en ?_
    rw [hd]
    exact p2
  | ok x R1 =>
    rw [hd, bind_ok] at p2
    have eR := hns _ _ _ _ hd
    subst eR
    refine tD_of w en ?_
    rw [hd]
    intro v H1 w1 r1
    split at p2
    · obtain ⟨z, hz, q⟩ := Ends.ofO (Ends.bind p2)
      have := r1.int_inv; subst v
      refine ⟨sc, _, _, .int z, rfl, rfl, (wd_ns w w1 h2).sqL, ?_, q _ H1 w1 (.int _)⟩
      unfold L2.atI at hz ⊢
      rw [List.length_map]
      obtain ⟨k, hk1, hk2⟩ := Option.bind_eq_some_iff.mp hz
      rw [hk1]
      show (List.map V.int R1.ns)[k]? = _
      rw [List.getElem?_map, hk2]
      rfl
    · exact p2.elim
/-- row[k] = e -/
def sRow (i k : Nat) (e : Den) : DenS := fun ρ R => (e ρ R).bind fun x R1 => (ofO (rowAt ρ i) R1).bind fun _ R1 => match x with
  | .int z => (ofO (R1.put k z) R1).bind fun R2 _ => .ok (.nx ρ) R2
  | _ => .stuck
theorem Wd.setRow {K : PySem.W.Frag} {a0 : Addr} {S : List Addr} {H0 H : Hp} {R R' : Row} (w : Wd K c a0 S H0 H R) (hn : R'.ns = R.ns) {sc : Addr} (h1 : H a0 = some (.lst [.ref sc, .int R.i, .int R.m, .int R.c])) (h2 : SqF K H sc (R.ns.map V.int)) : Wd K c a0 S H0 (upd H a0 (.lst [.ref sc, .int R'.i, .int R'.m, .int R'.c])) R' where
  a0S := w.a0S
  sS := w.sS
  gr := fun b o nb e n => by rw [upd_ne nb]; exact w.gr b o nb e n
  row := by
    refine ⟨sc, upd_same, ?_⟩
    rw [hn]
    rcases h2 with ⟨o, h2⟩ | h2
    · refine .inl ⟨o, ?_⟩
      rw [upd_ne fun z => by subst z; rw [h1] at h2; cases h2]
      exact h2
    · exact .inr h2
  tabs := tabs_keep w.tabs fun b o e n => by
    rw [upd_ne fun z => by subst z; rw [h1] at e; cases e; exact n _ rfl]
    exact e
theorem StA.setRow {K : PySem.W.Frag} {a0 : Addr} {S : List Addr} {H0 Vi H : Hp} {A : List (Nat × Addr)} {ρ : Env} {R R' : Row} {σ : L2.St} (st : StA K c a0 S H0 Vi A ρ R σ H) (hn : R'.ns = R.ns) {sc : Addr} (h1 : H a0 = some (.lst [.ref sc, .int R.i, .int R.m, .int R.c])) (h2 : SqF K H sc (R.ns.map V.int)) :
    StA K c a0 S H0 Vi A ρ R' σ (upd H a0 (.lst [.ref sc, .int R'.i, .int R'.m, .int R'.c])) := by
  have he : hide (upd H a0 (.lst [.ref sc, .int R'.i, .int R'.m, .int R'.c])) (A.map (·.2) ++ S) = hide H (A.map (·.2) ++ S) := by
    funext b
    by_cases hb : b ∈ A.map (·.2) ++ S
    · rw [hide_in hb, hide_in hb]
    · rw [hide_out hb, hide_out hb, upd_ne fun z => hb (by rw [z]; exact List.mem_append_right _ st.w.a0S)]
  refine ⟨st.w.setRow hn h1 h2, st.nd1, st.nd2, fun p hp => ?_, st.len, by rw [he]; exact st.rest, by rw [he]; exact st.vis⟩
  obtain ⟨f, e1, d, e2, ho⟩ := st.own p hp
  refine ⟨f, e1, d, e2, ?_⟩
  rw [he]
  refine ho.mono (Sub.refl _) fun o e _ => ?_
  rw [upd_ne fun z => st.notS hp (by rw [z]; exact st.w.a0S)]
  exact e
theorem ds_row (i k : Nat) {x : Str} {e : Expr} {d : Den} {j} {p1 p2 tpos : Pos} (h : DE X c E e d) (hN : X.N[i]? = some x := by rfl) (hv : Vis X.env.scope x := by first | exact Or.inl rfl | exact Or.inr (Or.inl rfl) | exact Or.inr (Or.inr rfl)) (hd : (x == ("__debug__" : Str)) = false := by decide) (hcd : (x == ("__classdict__" : Str)) = false := by decide)
    (hs : swapsWithSole [.Subscript (.Name x p1) (.Constant (.int (k : Nat)) j p2) tpos] e pos.line X.env = pure false := by rfl) (hw : swappedStores [.Subscript (.Name x p1) (.Constant (.int (k : Nat)) j p2) tpos] e X.env = pure none := by rfl) (h1 : (assignEach [.Subscript (.Name x p1) (.Constant (.int (k : Nat)) j p2) tpos] X.env).map (·.2) = [assign (.Subscript (.Name x p1) (.Constant (.int (k : Nat)) j p2) tpos) X.env] := by rfl)
    (ha : ∀ v, assign (.Subscript (.Name x p1) (.Constant (.int (k : Nat)) j p2) tpos) X.env v = (do
      let ov ← holding [v] (eval (.Name x p1) X.env)
      let iv ← holding [v, ov] (eval (.Constant (.int (k : Nat)) j p2) X.env)
      standAt tpos
      holding [v, ov, iv] (setItem ov iv v)
      release [v, ov, iv] []) := by intro _; rfl) :
    DS X c E OL O O (.Assign [.Subscript (.Name x p1) (.Constant (.int (k : Nat)) j p2) tpos] e pos) (sRow i k d) := by
  refine PS.imp (ps_asg h (pg_sub (pe_var hN hv hd hcd) pe_int set_list ha) hs hw h1) fun D σ H ⟨a0, S, H0, Vi, ρ, R, st, p⟩ => ?_
  refine tD_st st (Ends.bind p) fun v R1 p v1 H1 w1 st1 r1 => ?_
  obtain ⟨_, hr, p⟩ := Ends.ofO (Ends.bind p)
  obtain ⟨A, sa, h1, h2⟩ := st1
  obtain ⟨u, e1, r2⟩ := sa.env.2 i _ (rowAt_some hr)
  have := row_inv r2; subst u
  obtain ⟨sc, hl, hq⟩ := sa.w.row
  split at p
  · rename_i z _
    obtain ⟨R2, hz, q⟩ := Ends.ofO (Ends.bind p)
    have := r1.int_inv; subst v1
    have hp : ∃ m, ixN 4 ((k : Nat) : Int) = some m ∧ ([V.ref sc, .int R1.i, .int R1.m, .int R1.c].set m (.int z)) = [V.ref sc, .int R2.i, .int R2.m, .int R2.c] ∧ R2.ns = R1.ns := by
      unfold Row.put at hz
      split at hz <;> first | (cases hz; done) | (cases hz; exact ⟨_, rfl, rfl, rfl⟩)
    obtain ⟨m, hm, hset, hns⟩ := hp
    refine ⟨_, e1, a0, _, _, m, rfl, rfl, hl, hm, ?_⟩
    rw [hset]
    exact q σ _ ⟨A, sa.setRow hns hl hq, h1, h2⟩
  · exact p.elim
end
end Ev

/-! Ev: defs -/
namespace Ev
open PySem PySem.Spec PyProof.Rows L2

/-! ### a def by its body -/
def callF (j : Nat) (den : DenS) : List PyData → Row → Res PyData := fun ds R => (den (ds.map some ++ List.replicate j none) R).bind fun fl R1 => match fl with
  | .nx _ => .ok .none R1
  | .rt d => .ok d R1
  | _ => .stuck
structure FunC (K : PySem.W.Frag) (x : Str) (st : Stmt) (f : Addr) (fd : FuncData) (cdv : Value) : Prop where
  ex : ∃ (oc : Value) (od : Option Addr) (kV doc pm : Value) (an : Option Addr) (ct : Value) (osl : Array (Option Value)),
    fd = PySem.W.fnOf x x (defArgs st) (defBody st) (defScope st) .none kV doc pm an cdv ct ∧ K.lookup f = some ⟨oc, od, .func fd, osl⟩ ∧ PySem.W.codeIn K cdv x = true
  kp : PySem.W.keepIn K (.ref f) = true
section
variable {P : Program} {w : World} {K : PySem.W.Frag} {mg : Str → Option Value} {base : Heap} {c : Cfg}
theorem funC_mk {x : Str} {st : Stmt} {f : Addr} {oc : Value} {od an : Option Addr} {osl : Array (Option Value)} {kV doc pm cdv ct : Value} (l : K.lookup f = some ⟨oc, od, .func (PySem.W.fnOf x x (defArgs st) (defBody st) (defScope st) .none kV doc pm an cdv ct), osl⟩) (c : PySem.W.codeIn K cdv x = true) (k : PySem.W.keepIn K (.ref f) = true) : FunC K x st f (PySem.W.fnOf x x (defArgs st) (defBody st) (defScope st) .none kV doc pm an cdv ct) cdv :=
  ⟨⟨oc, od, kV, doc, pm, an, ct, osl, rfl, l, c⟩, k⟩
theorem start_env {N : List Str} {a0 : Addr} {H : Hp} {vs : List V} {ds : List PyData} {j : Nat} (h : N.length = ds.length + j) (r : RepA K a0 H vs ds) : EnvR K a0 H (ds.map some ++ List.replicate j none) (L2.start N vs) := by
  have hl := r.length
  refine ⟨?_, fun i d e => ?_⟩
  · unfold L2.start
    rw [List.length_append, List.length_append, List.length_map, List.length_map, List.length_replicate, List.length_replicate]
    omega
  · unfold L2.start
    by_cases c : i < ds.length
    · rw [List.getElem?_append_left (by rw [List.length_map]; exact c), List.getElem?_map] at e
      rw [List.getElem?_append_left (by rw [List.length_map]; omega), List.getElem?_map]
      obtain ⟨y, hy, e⟩ := Option.map_eq_some_iff.mp e
      cases e
      obtain ⟨u, h1, h2⟩ := r.get hy
      exact ⟨u, by rw [h1]; rfl, h2⟩
    · rw [List.getElem?_append_right (by rw [List.length_map]; omega), List.length_map] at e
      by_cases c2 : i - ds.length < j
      · rw [List.getElem?_replicate_of_lt c2] at e
        cases e
      · rw [List.getElem?_eq_none (by rw [List.length_replicate]; omega)] at e
        cases e
theorem st_start {E : XK} {N : List Str} {a0 : Addr} {S : List Addr} {H : Hp} {R : Row} {vs : List V} {ds : List PyData} {j : Nat} (h : N.length = ds.length + j) (w : Wd K c a0 S H H R) (r : RepA K a0 (hide H S) vs ds) :
    StOk K c a0 S H (hide H S) [] (ds.map some ++ List.replicate j none) R (L2.start N vs) H := by
  have e := start_env h r
  refine ⟨[], ⟨w, List.nodup_nil, List.nodup_nil, fun p hp => by simp at hp, e.1, fun i d h _ => e.2 i d h, Sub.refl _⟩, fun i hi => by simp at hi, fun i hi => by simp at hi⟩
theorem spD_len {np : Nat} {F : List PyData → Row → Res PyData} {vs : List V} {H : Hp} {Q : VK} {E : XK} (h : spD K c np F vs H Q E) : vs.length = np := by
  obtain ⟨_, _, _, _, h1, _, h2, _⟩ := h
  rw [h2.length, h1]
theorem call_ends {O' OL : List Nat} {E : XK} {den : DenS} {j : Nat} {N : List Str} {np : Nat} {vs : List V} {H : Hp} {Q : VK} (hN : N.length = np + j) (h : spD K c np (callF j den) vs H Q E) :
    tS K c E OL [] O' den { nx := fun _ H' => Q .non H', rt := Q } (L2.start N vs) H := by
  obtain ⟨a0, S, R, ds, hl, w, r, q⟩ := h
  refine ⟨a0, S, H, hide H S, _, R, st_start (E := E) (j := j) (by omega) w r, (Ends.bind q).mono (fun fl R1 q1 => ?_) fun _ _ x => x⟩
  cases fl with
  | nx ρ => exact fun σ' H' ⟨A, sa, _⟩ => q1 _ _ sa.w .non
  | rt d => exact q1
  | bk ρ => exact q1.elim
  | ct ρ => exact q1.elim
/-- a def, its body as a denotation; cdv: where its code lies -/
theorem fn_body {x : Str} {st : Stmt} {f : Addr} {fd : FuncData} {cdv : Value} {N ps : List Str} {k j : Nat} {OL O' : List Nat} {den : DenS} (F : FunC K x st f fd cdv) (S : FnScope N ps (defScope st)) (hm : mg x = some (.ref f)) (hN : N.length = ps.length + j)
    (hb : ∀ (kV doc pm : Value) (an : Option Addr) (cdv ct : Value) (us : List Value), us.length = ps.length → bindArgs (PySem.W.fnOf x x (defArgs st) (defBody st) (defScope st) .none kV doc pm an cdv ct) ⟨us, []⟩ = pure (ps.zip us))
    (hk : ∀ (kV doc pm : Value) (an : Option Addr) (cdv ct : Value) (us ws : List Value) (ks : List Str), ks = ps.drop us.length → (us ++ ws).length = ps.length → ws ≠ [] → bindArgs (PySem.W.fnOf x x (defArgs st) (defBody st) (defScope st) .none kV doc pm an cdv ct) ⟨us, ks.zip ws⟩ = pure (ps.zip (us ++ ws)))
    (hbody : ∀ (A : Around) (outer : List PySem.Env) (s : Shared) (H : Hp) (E : XK), Room k (A.deeper (envOfC x (defScope st) s.heap.objs.size f cdv)) →
      DSs (cxOf (L2.CX P w) P w K mg base N x (defScope st) f cdv A outer s H E) c E OL [] O' (defBody st) den) : Fn P w K mg base c (k + 1) x ps (callF j den) := by
  obtain ⟨⟨oc, od, kV, doc, pm, an, ct, osl, rfl, lk, hcd⟩, kp⟩ := F
  refine ⟨f, PySem.W.fnOf x x (defArgs st) (defBody st) (defScope st) .none kV doc pm an cdv ct, ?_, hm, kp, fun us h => hb kV doc pm an cdv ct us h, fun us ws ks h1 h2 h3 => hk kV doc pm an cdv ct us ws ks h1 h2 h3⟩
  exact fn_of lk hcd S (fun vs H Q E h => spD_len h) fun A outer s H vs Q E hr h => ⟨_, hbody A outer s H E hr, call_ends hN h⟩
/-- a def whose depth is not enough: nothing is promised -/
theorem fn_none {x : Str} {st : Stmt} {f : Addr} {fd : FuncData} {cdv : Value} {ps : List Str} {k : Nat} (F : FunC K x st f fd cdv) (hm : mg x = some (.ref f))
    (hb : ∀ (kV doc pm : Value) (an : Option Addr) (cdv ct : Value) (us : List Value), us.length = ps.length → bindArgs (PySem.W.fnOf x x (defArgs st) (defBody st) (defScope st) .none kV doc pm an cdv ct) ⟨us, []⟩ = pure (ps.zip us))
    (hk : ∀ (kV doc pm : Value) (an : Option Addr) (cdv ct : Value) (us ws : List Value) (ks : List Str), ks = ps.drop us.length → (us ++ ws).length = ps.length → ws ≠ [] → bindArgs (PySem.W.fnOf x x (defArgs st) (defBody st) (defScope st) .none kV doc pm an cdv ct) ⟨us, ks.zip ws⟩ = pure (ps.zip (us ++ ws))) :
    Fn P w K mg base c k x ps (fun _ _ => .stuck) := by
  obtain ⟨⟨oc, od, kV, doc, pm, an, ct, osl, rfl, lk, hcd⟩, kp⟩ := F
  refine ⟨f, PySem.W.fnOf x x (defArgs st) (defBody st) (defScope st) .none kV doc pm an cdv ct, ⟨fun vs H Q E h => spD_len h, fun A outer s H args us vs Q E _ _ _ _ h => ?_⟩, hm, kp, fun us h => hb kV doc pm an cdv ct us h, fun us ws ks h1 h2 h3 => hk kV doc pm an cdv ct us ws ks h1 h2 h3⟩
  obtain ⟨_, _, _, _, _, _, _, q⟩ := h
  exact q.elim
end
theorem cx_takes {CX0 : Nat} {P : Program} {w : World} {K : PySem.W.Frag} {mg : Str → Option Value} {base : Heap} {N : List Str} {q : Str} {sc : Scope} {f : Addr} {cdv : Value} {A : Around} {outer : List PySem.Env} {s : Shared} {H : Hp} {E : XK} : Takes (cxOf (L2.CX P w) P w K mg base N q sc f cdv A outer s H E) (fun cls d _ H => E cls d H) := takes_of rfl rfl rfl rfl
theorem cx_pass {P : Program} {w : World} {K : PySem.W.Frag} {mg : Str → Option Value} {base : Heap} {N : List Str} {q : Str} {sc : Scope} {f : Addr} {cdv : Value} {A : Around} {outer : List PySem.Env} {s : Shared} {H : Hp} {E : XK} : Passes (L2.CX P w) (cxOf (L2.CX P w) P w K mg base N q sc f cdv A outer s H E) E := passes_call (cx_takes (CX0 := 0)) fun _ _ _ _ h => h

/-! ### BadArgument -/
def iB (q1 q2 q3 q4 : Pos) : List Stmt := [.Assign [.Attribute (.Name "self" q1) "name" q2] (.Name "name" q3) q4]
/-- what the text has written of BadArgument, at C -/
structure Bad (P : Program) (w : World) (K : PySem.W.Frag) (mg : Str → Option Value) (base : Heap) (C : Addr) : Prop where
  gC : mg "BadArgument" = some (.ref C)
  ox : OexC K C
  xf : XfC K C
  noN : PySem.W.findIn K (.ref C) "name" = some none
  te : PySem.W.exmOne K (.ref C) (.ref C) = some true
  init : ∃ (fI : Addr) (fd : FuncData), PySem.W.findIn K (.ref C) "__init__" = some (some (.ref fI)) ∧ PySem.W.typeIn K (.ref fI) = some (.type "function") ∧ Binds K fd ["self", "name"] [] ∧
    FnOk P w K mg base (L2.CX P w) 1 fI fd ["self", "name"] fun vs H Q _ => ∃ (a : Addr) (y : V), vs = [.ref a, y] ∧ H a = some (exo a C none) ∧ ∀ dx, H dx = none → dx ≠ a → Q .non (upd (upd H dx (exd dx [("name", y)])) a (exo a C (some dx)))
theorem scI {st : Stmt} (h : defScope st = { kind := .function, names := [(PySem.Str.ofString "self", .local), (PySem.Str.ofString "name", .local)], isGenerator := false, isCoroutine := false, more := [] }) : FnScope ["self", "name"] ["self", "name"] (defScope st) := by
  rw [h]
  exact ⟨rfl, rfl, rfl, by decide +kernel, rfl, by decide +kernel, by decide +kernel⟩
theorem ok_init {P : Program} {w : World} {K : PySem.W.Frag} {mg : Str → Option Value} {base : Heap} {C fI : Addr} {fd : FuncData} {st : Stmt} {q1 q2 q3 q4 : Pos} (F : Fun K "__init__" "BadArgument.__init__" st fI fd) (hs : defScope st = { kind := .function, names := [(PySem.Str.ofString "self", .local), (PySem.Str.ofString "name", .local)], isGenerator := false, isCoroutine := false, more := [] })
    (hbd : defBody st = iB q1 q2 q3 q4) (T : OexC K C) (noN : PySem.W.findIn K (.ref C) "name" = some none) :
    FnOk P w K mg base (L2.CX P w) 1 fI fd ["self", "name"] fun vs H Q _ => ∃ (a : Addr) (y : V), vs = [.ref a, y] ∧ H a = some (exo a C none) ∧ ∀ dx, H dx = none → dx ≠ a → Q .non (upd (upd H dx (exd dx [("name", y)])) a (exo a C (some dx))) := by
  refine F.okX (scI hs) (fun vs H Q E ⟨a, y, h, _⟩ => by rw [h]; rfl) fun cdv A outer s H vs Q E hr ⟨a, y, h, ha, q⟩ => ?_
  rw [hbd, hs]
  refine ⟨_, pss_one (ps_ost (pe_var (i := 0) rfl (Or.inl rfl)) (pe_var (i := 1) rfl (Or.inl rfl))), ?_⟩
  subst h
  exact ⟨_, rfl, _, rfl, a, C, rfl, T, noN, .inl ⟨ha, fun dx hd hne => q dx hd hne⟩⟩
section
variable {X : Cx} {c : Cfg} {E : XK} {OL O O' : List Nat} {p pos pos2 : Pos}
/-- the exception's dict is tracked, the exception itself is not -/
theorem Wd.raised {K : PySem.W.Frag} {a0 : Addr} {S : List Addr} {H H1 : Hp} {R : Row} (w1 : Wd K c a0 S H H1 R) {a dx : Addr} {o0 o1 o2 : HO} (ha : H1 a = none) (hd : H1 dx = none) (hne : dx ≠ a) {fs : List (Str × V)} :
    Wd K c a0 S H (upd (del (upd (upd (upd H1 a o0) dx o1) a o2) a) dx (.xd fs)) R := by
  have key : ∀ b o, H1 b = some o → (upd (del (upd (upd (upd H1 a o0) dx o1) a o2) a) dx (.xd fs)) b = some o := fun b o e => by
    have n1 : b ≠ a := ne_of_none e ha
    have n2 : b ≠ dx := ne_of_none e hd
    rw [upd_ne n2, del_ne n1, upd_ne n1, upd_ne n2, upd_ne n1]
    exact e
  refine ⟨w1.a0S, w1.sS, fun b o n e z => key b o (w1.gr b o n e z), ?_, w1.tabs.ext key⟩
  obtain ⟨sc, h, f⟩ := w1.row
  exact ⟨sc, key _ _ h, f.mono fun o u e => key _ _ e⟩
def sRaise (d : Den) : DenS := fun ρ R => (d ρ R).bind fun v R1 => match v with
  | .str nm => .exc nm R1
  | _ => .stuck
theorem ds_raise {e : Expr} {d : Den} {k : Nat} (B : Bad X.prog X.w X.K X.mg X.base c.CB) (hc : X.calm = true) (hr : Room k X.A) (hk : 2 ≤ k) (tk : Takes X (fun cls d _ H => E cls d H)) (h : DE X c E e d) (hg : Gl X "BadArgument" := by rfl)
    (he : starEach (e :: []) X.env = (false, eval e X.env) :: starEach [] X.env := by rfl) (hpl : (backTo pos (starEach [] X.env)).any (·.1) = false := by rfl) :
    DS X c E OL O O' (.Raise (some (.Call (.Name "BadArgument" p) [e] [] pos)) none pos2) (sRaise d) := by
  obtain ⟨fI, fd, iC, tI, hb, ok⟩ := B.init
  refine PS.imp (ps_raise hc tk (pmk_oex (dvs := []) B.ox iC tI ok (hr.mono hk) hb .nil passL hg B.gC (pa_cons h pa_nil he) (by decide) he hpl)) fun D σ H ⟨a0, S, H0, Vi, ρ, R, st, q⟩ => ?_
  refine tD_st st (Ends.bind q) fun v R1 q v1 H1 w1 st1 r1 => ?_
  cases v with
  | str nm =>
    have := r1.str_inv; subst v1
    refine ⟨by show 1 ≤ 1000; decide, fun a ha => ⟨a, _, rfl, upd_same, fun dx hd hne => ⟨rfl, dx, [("name", .str nm)], upd_same, ?_, ?_, ?_⟩⟩⟩
    · rw [upd_ne hne, upd_same]
    · rw [← hd, upd_ne hne]
    · have hd1 : H1 dx = none := by rw [← hd, upd_ne hne]
      obtain ⟨A, sa, _⟩ := st1
      exact q dx _ (sa.w.raised ha hd1 hne) upd_same
  | _ => exact q.elim
end
end Ev

/-! Ev: what is refused -/
namespace Ev
open PySem PySem.Spec PyProof.Rows L2 LamX
def dRefused (d : Den) : Den := fun ρ R => match d ρ R with
  | .ok _ R1 => .ok (.str "") R1
  | .exc nm R1 => .ok (.str nm) R1
  | .stuck => .stuck
def TTb (CB : Addr) : (XK → Hp → VK → Prop) → Hp → VK → Prop := fun tl H Q =>
  tl (fun cls d H' => cls = .ref CB ∧ ∃ dd v, d = some dd ∧ H' dd = some (.xd [("name", v)]) ∧ Q v H') H (fun _ H' => Q (.str "") H')
section
variable {X : Cx} {c : Cfg} {E : XK}
theorem bad_gives {q : Str} {sg : Scope} {g : Addr} {cdg : Value} {j : Nat} {p1 p2 p3 p4 p5 p6 p7 p8 p9 p10 p11 : Pos} (B : Bad X.prog X.w X.K X.mg X.base c.CB) (hge : sg.names.lookup ("BadArgument" : Str) = some .globalImplicit) (hle : sg.names.lookup ("e" : Str) = some .local) :
    GivesTo X ["call", "e"] "_law_refused" sg g cdg [.Try [.Expr (.Call (.Name "call" p1) [] [] p2) p3] [.ExceptHandler (some (.Name "BadArgument" p4)) (some "e") [.Return (some (.Attribute (.Name "e" p5) "name" p6)) p7] p8] [] [] p9, .Return (some (.Constant (.str "") j p10)) p11] "call" q (TTb c.CB) := by
  intro f c' s H Q tl act hc h
  have hgl : Gl (cxOf C8.CX0 X.prog X.w X.K X.mg X.base ["call", "e"] "_law_refused" sg g cdg X.A X.stack s H C8.E0).nox "BadArgument" := hge
  refine ⟨_, pss_cons (ps_try_as (X := (cxOf C8.CX0 X.prog X.w X.K X.mg X.base ["call", "e"] "_law_refused" sg g cdg X.A X.stack s H C8.E0).nox) (c := .ref c.CB) (i := 1) (n := "e")
      (tb := fun W D σ H => ∃ Ech : XK, (∀ cls d (σ' : L2.St) H', σ'.length = 2 → Ech cls d H' → W cls d σ' H') ∧ σ[0]? = some (some (.ref f)) ∧ H c' = some (CodeO c' q) ∧ tl Ech H fun _ H' => D.nx σ H')
      (ts := fun a cls d => tRet (tXf a cls d c.CB "name" (tVar 1)))
      rfl rfl (show (["call", "e"] : List Str).Nodup by decide +kernel) rfl hle ⟨hgl, by decide +kernel, .inl B.gC⟩ L2.takes0 (fun W pn xe tk _ => ?_) (fun a oe cls d pn hz hf => pss_one (ps_ret (pe_xf B.xf B.noN hz hf (pe_var (i := 1) rfl (Or.inl hle)))))) (pss_one (ps_ret pe_str)), ?_⟩
  · refine ⟨fun pins s' σ H' D I h' => ?_⟩
    obtain ⟨Ech, hW, h1, h2, h3⟩ := h'
    have tk' : Takes ((cxOf C8.CX0 X.prog X.w X.K X.mg X.base ["call", "e"] "_law_refused" sg g cdg X.A X.stack s H C8.E0).tr pn xe) (fun cls d _ H' => Ech cls d H') := fun u s' ⟨a, B, sI, pins, σ, H, cls, d, e, I, nb, up, sky, na, os, ag, w⟩ =>
      tk u s' ⟨a, B, sI, pins, σ, H, cls, d, e, I, nb, up, sky, na, os, ag, hW _ _ _ _ I.len w⟩
    have hp := act _ pn xe Ech p1 p2 tk' fun _ _ _ _ z => z
    have hq := pss_one (ps_expr (pos := p3) hp)
    exact hq.run pins s' σ H' D I ⟨h1, h2, h3⟩
  · refine ⟨_, fun cls d σ' H' hl ⟨e1, dd, v, e2, e3, e4⟩ => ⟨true, by rw [e1]; exact B.te, fun _ a ha => ⟨_, by rw [List.getElem?_set_self (by omega)], rfl, e1, dd, _, v, e2, e3, by simp [List.lookup], e4⟩, fun z => by cases z⟩, rfl, hc, h⟩
/-- _law_refused(lambda: e) -/
theorem de_refused {g cc P : Addr} {k k0 : Nat} {pg : Arguments} {bg : List Stmt} {sg : Scope} {dV kV doc pm cdv ct oc : Value} {an od : Option Addr} {osl : Array (Option Value)} {params : Arguments} {body : Expr} {scope : Scope} {p lpos pos : Pos} {den : Den}
    {j : Nat} {p1 p2 p3 p4 p5 p6 p7 p8 p9 p10 p11 : Pos} (B : Bad X.prog X.w X.K X.mg X.base c.CB) (hm : X.mg "_law_refused" = some (.ref g)) (hk : PySem.W.keepIn X.K (.ref g) = true)
    (lk : X.K.lookup g = some ⟨oc, od, .func (PySem.W.fnOf "_law_refused" "_law_refused" pg bg sg dV kV doc pm an cdv ct), osl⟩) (hcg : PySem.W.codeIn X.K cdv "_law_refused" = true)
    (hb : L2.Binds X.K (PySem.W.fnOf "_law_refused" "_law_refused" pg bg sg dV kV doc pm an cdv ct) ["call"] []) (Sg : FnScope ["call", "e"] ["call"] sg)
    (hbg : bg = [.Try [.Expr (.Call (.Name "call" p1) [] [] p2) p3] [.ExceptHandler (some (.Name "BadArgument" p4)) (some "e") [.Return (some (.Attribute (.Name "e" p5) "name" p6)) p7] p8] [] [] p9, .Return (some (.Constant (.str "") j p10)) p11])
    (hge : sg.names.lookup ("BadArgument" : Str) = some .globalImplicit) (hle : sg.names.lookup ("e" : Str) = some .local) (hva : Vis sg "call")
    (TB : TabB X.base X.mg cc P) (hcode : X.env.code = .ref cc) (hmT : (P, X.env.qual ++ "<lambda>") ∈ c.T) (hu : ∀ p ∈ c.T, p.1 = P → p.2 = X.env.qual ++ "<lambda>") (hr : Room k0 X.A) (hk0 : k + 2 ≤ k0)
    (hbody : ∀ (A : Around) (outer : List PySem.Env) (s : Shared) (H : Hp) (E : XK) (f c' : Addr), Room k (A.deeper (lamEnv X scope s.heap.objs.size f c')) → DE (lamCx X A outer s H E scope f c') c E body den)
    (L : LamS X.env.scope scope := by exact lamS_by rfl) (hdef : defaultsOf params X.env = ([], []) := by rfl)
    (hbind : ∀ (q : Str) (cl : List (Str × Addr)) (pm cv ctv : Value), bindArgs (PySem.W.kla_fn "<lambda>" q params body scope cl pm cv ctv) ⟨[], []⟩ = pure [] := by intros; rfl) (hg : Gl X "_law_refused" := by rfl) :
    DE X c E (.Call (.Name "_law_refused" p) [.Lambda params body scope lpos] [] pos) (dRefused den) := by
  subst hbg
  refine PE.imp (pe_lamcall (t := fun E => tD X.K c E den) hg hm hk lk hcg hb Sg rfl hva (bad_gives B hge hle) TB hcode hmT hu (hr.mono hk0) L hdef hbind hbody (by decide +kernel) (by decide +kernel) (by decide +kernel)) fun σ H Q ⟨a0, S, ρ, R, w, en, q⟩ => ⟨w.tabs, fun H1 eN T1 => ?_⟩
  have w1 : Wd X.K c a0 S H H1 R := by
    refine ⟨w.a0S, w.sS, fun b o _ e n => eN b o e n, ?_, T1⟩
    obtain ⟨sc, h, f⟩ := w.row
    exact ⟨sc, eN _ _ h nt_lst, f.mono fun o u e => eN _ _ e nt_frz⟩
  refine ⟨a0, S, ρ, R, w1.here, en.mono w1.sub, ?_⟩
  unfold dRefused at q
  cases hd : den ρ R with
  | stuck => rw [hd] at q; exact q.elim
  | ok d R1 =>
    rw [hd] at q
    exact fun v H2 w2 _ => q _ _ (w1.trans w2) (.str _)
  | exc nm R1 =>
    rw [hd] at q
    exact fun dx H2 w2 e => ⟨rfl, dx, _, rfl, e, q _ _ (w1.trans w2) (.str _)⟩
end
end Ev

/-! Ev: law -/
namespace Ev
open PySem PySem.Spec PyProof.Rows L2 LamX
theorem ok_frz {P : Program} {w : World} {H : Hp} {h : Heap} {a : Addr} {xs : List V} {u : HO} (ha : H a = some (.lst xs)) : ∀ {o : HO} {b : Addr}, ObjOk P w H h b o → ObjOk P w (upd H a u) h b o
  | .lst _, _, x => x
  | .tup _, _, x => x
  | .dK _, _, x => x
  | .dT kvs, b, x => by
    obtain ⟨h1, h2, ys, h3, h4⟩ := x
    refine ⟨h1, h2, ys, Paired.mono (fun p q ⟨e1, e2, e3⟩ => ⟨e1, ?_, e3⟩) h3, h4⟩
    rw [upd_ne fun z => ?_]
    · exact e2
    · rw [z, ha] at e2; cases e2
  | .set _ _, _, x => x
  | .ins C dx fs, b, x => by
    obtain ⟨h1, h2⟩ := x
    refine ⟨?_, h2⟩
    rw [upd_ne fun z => ?_]
    · exact h1
    · rw [z, ha] at h1; cases h1
  | .own _, _, x => x
  | .xd _, _, x => x
  | .rng _ _, _, x => x
  | .frz o v, b, x => ⟨x.1, ok_frz ha x.2⟩
  | .tbl _, _, x => x
  | .met _ _, _, x => x
  | .ext _, _, x => x
/-- what is handed in may be taken to stand still -/
theorem fn_frz {P : Program} {w : World} {K : PySem.W.Frag} {mg : Str → Option Value} {base : Heap} {k : Nat} {f : Addr} {fd : FuncData} {ps : List Str} {sp : Sp} (F : FnOk P w K mg base (L2.CX P w) k f fd ps sp) :
    FnOk P w K mg base (L2.CX P w) k f fd ps fun vs H Q E => sp vs H Q E ∨ ∃ a xs, H a = some (.lst xs) ∧ ∀ o, sp vs (upd H a (.frz o (.lst xs))) Q fun _ _ _ => False := by
  refine ⟨fun vs H Q E h => ?_, fun A outer s H args us vs Q E hr he hb hv h => ?_⟩
  · rcases h with h | ⟨a, xs, _, h⟩
    · exact F.len _ _ _ _ h
    · exact F.len _ _ _ _ (h { cls := .none, data := .fields #[] })
  · rcases h with h | ⟨a, xs, ha, h⟩
    · exact F.run A outer s H args us vs Q E hr he hb hv h
    · obtain ⟨o, ho⟩ : ∃ o, s.heap.get? a = some o := by
        obtain ⟨_, its, n, _, e⟩ := he.hok a _ ha
        exact ⟨_, e⟩
      have nn : ∀ b, H b = none → (upd H a (.frz o (.lst xs))) b = none := fun b e => by rw [upd_ne (fun z => by rw [z, ha] at e; cases e)]; exact e
      have oo : ∀ b, b ≠ a → (upd H a (.frz o (.lst xs))) b = H b := fun b e => upd_ne e
      have he' : Env0 P w K mg base A outer s (upd H a (.frz o (.lst xs))) := by
        refine ⟨he.frames, he.mod, fun b u e => ⟨(he.bs b u e).1, nn b (he.bs b u e).2⟩, he.bsz, he.funs, fun b hb => nn b (he.frf b hb), fun b u e => ?_, he.bare⟩
        by_cases hb : b = a
        · subst hb
          rw [upd_same] at e
          cases e
          exact ⟨ho, ok_frz ha (he.hok b _ ha)⟩
        · rw [oo b hb] at e
          exact ok_frz ha (he.hok b u e)
      refine codeAny_mono (F.run A outer s _ args us vs Q _ hr he' hb hv (h o)) fun r s' hq => ?_
      cases r with
      | error e =>
        obtain ⟨_, _, _, _, _, _, _, _, _, _, _, _, z⟩ := hq
        exact z.elim
      | ok fl =>
        cases fl with
        | ret u =>
          obtain ⟨v, H', os, ag, un, hok, rv, q⟩ := hq
          exact ⟨v, H', os, ag, ⟨fun b x e n => un.keep b x e (nn b n), fun b x e n => un.slot b x e (nn b n), fun b x e n => un.free b x e (nn b n), un.there, fun b ys e => un.tups b ys (by rw [oo b (fun z => by rw [z, ha] at e; cases e)]; exact e), fun b x y e => un.frzs b x y (by rw [oo b (fun z => by rw [z, ha] at e; cases e)]; exact e), fun b ys e => un.tbls b ys (by rw [oo b (fun z => by rw [z, ha] at e; cases e)]; exact e)⟩, hok, rv, q⟩
        | next => exact hq
        | brk => exact hq
        | cont => exact hq
/-- law's promise -/
def spLaw (K : PySem.W.Frag) (c : Cfg) : Sp := fun vs H Q _ => ∃ (a : Addr) (ns : List Int), vs = [.ref a] ∧ SqL K H a (ns.map V.int) ∧ ns.length ≤ 63 ∧ (∀ z ∈ ns, Builtin.Int.intBits z ≤ 1048576) ∧ (∀ p ∈ c.T, H p.1 = some (.tbl #[])) ∧ ∀ H', Q (.bl true) H'
section
variable {P : Program} {w : World} {K : PySem.W.Frag} {mg : Str → Option Value} {base : Heap} {c : Cfg}
theorem fn_law {st : Stmt} {f : Addr} {fd : FuncData} {cdv : Value} {k : Nat} {seed : Int} {OL O' : List Nat} {rest : List Stmt} {den : DenS} {j1 j2 j3 : Nat} {p1 p2 p3 p4 p5 p6 p7 : Pos} (F : FunC K "law" st f fd cdv) (S : FnScope ["script", "row", "turn"] ["script"] (defScope st))
    (hb : defBody st = .Assign [.Name "row" p1] (.List [.Name "script" p2, .Constant (.int 0) j1 p3, .Constant (.int seed) j2 p4, .Constant (.int 0) j3 p5] p6) p7 :: rest) (hv : Vis (defScope st) "script" := by exact Or.inl rfl) (hv2 : L2.Loc (defScope st) "row" := by exact Or.inl rfl)
    (hbody : ∀ (A : Around) (outer : List PySem.Env) (s : Shared) (H : Hp) (E : XK), Room k (A.deeper (envOfC "law" (defScope st) s.heap.objs.size f cdv)) →
      DSs (cxOf (L2.CX P w) P w K mg base ["script", "row", "turn"] "law" (defScope st) f cdv A outer s H E) c E OL [] O' rest den)
    (hden : ∀ ns : List Int, ns.length ≤ 63 → (∀ z ∈ ns, Builtin.Int.intBits z ≤ 1048576) → ∃ R', den [none, some rowD, none] ⟨ns, 0, seed, 0⟩ = .ok (.rt (.bool true)) R') :
    FnOk P w K mg base (L2.CX P w) (k + 1) f fd ["script"] (spLaw K c) := by
  obtain ⟨⟨oc, od, kV, doc, pm, an, ct, osl, rfl, lk, hcd⟩, kp⟩ := F
  have G : FnOk P w K mg base (L2.CX P w) (k + 1) f (PySem.W.fnOf "law" "law" (defArgs st) (defBody st) (defScope st) .none kV doc pm an cdv ct) ["script"] fun vs H Q _ => ∃ (a : Addr) (ns : List Int), vs = [.ref a] ∧ SqF K H a (ns.map V.int) ∧ ns.length ≤ 63 ∧ (∀ z ∈ ns, Builtin.Int.intBits z ≤ 1048576) ∧ (∀ p ∈ c.T, H p.1 = some (.tbl #[])) ∧ ∀ H', Q (.bl true) H' := by
    refine fn_of lk hcd S (fun vs H Q E ⟨a, ns, h, _⟩ => by rw [h]; rfl) fun A outer s H vs Q E hr ⟨a, ns, h, hS, hl, hz, hT, q⟩ => ?_
    subst h
    rw [hb]
    refine ⟨_, pss_cons (ps_set (i := 1) S.nd rfl hv2 (by exact (pe_lst (by exact (pa_cons (pe_var (i := 0) (x := "script") rfl hv (by decide +kernel) (by decide +kernel)) (pa_cons pe_int (pa_cons pe_int (pa_cons pe_int pa_nil)))))))) (hbody A outer s H E hr), ?_⟩
    refine ⟨_, rfl, by show 4 ≤ sizeLine; rw [sizeLine_eq]; decide, fun p hp => ?_⟩
    obtain ⟨R', e⟩ := hden ns hl hz
    refine ⟨p, [p], _, hide (upd H p (.lst [.ref a, .int 0, .int seed, .int 0])) [p], [none, some rowD, none], ⟨ns, 0, seed, 0⟩, ⟨[], ⟨⟨List.mem_cons_self, fun b hb => ?_, fun b o _ e _ => e, ⟨a, upd_same, ?_⟩, fun pq hpq => ?_⟩, List.nodup_nil, List.nodup_nil, fun p hp => by simp at hp, rfl, fun i d hi _ => ?_, Sub.refl _⟩, fun i hi => by simp at hi, fun i hi => by simp at hi⟩, ?_⟩
    · have := List.mem_singleton.mp hb
      subst this
      exact ⟨_, upd_same, nt_lst⟩
    · exact hS.mono fun o u e => by rw [upd_ne (ne_of_none e hp)]; exact e
    · refine TabS.nil ?_
      have e := hT pq hpq
      rw [upd_ne (ne_of_none e hp)]
      exact e
    · match i, hi with
      | 0, hi => cases hi
      | 1, hi =>
        cases hi
        exact ⟨_, rfl, .row⟩
      | 2, hi => cases hi
      | _ + 3, hi => cases hi
    · rw [e]
      intro v H' _ r
      have := r.bool_inv
      subst this
      exact q _
  refine (fn_frz G).imp fun vs H Q E ⟨a, ns, h, hS, hl, hz, hT, q⟩ => ?_
  rcases hS with (hS | ⟨o, hS⟩) | hS
  · refine .inr ⟨a, _, hS, fun o => ⟨a, ns, h, .inl ⟨o, upd_same⟩, hl, hz, fun pq hpq => ?_, q⟩⟩
    have e := hT pq hpq
    rw [upd_ne fun z => by rw [z, hS] at e; cases e]
    exact e
  · exact .inl ⟨a, ns, h, .inl ⟨o, hS⟩, hl, hz, hT, q⟩
  · exact .inl ⟨a, ns, h, .inr hS, hl, hz, hT, q⟩
end
end Ev

/-! Ev: what the printed derivations lean on -/
namespace Ev
open PySem PySem.Spec PyProof.Rows L2 LamX
structure Blts (mg : Str → Option Value) : Prop where
  len : mg "len" = none
  int : mg "int" = none
  abs : mg "abs" = none
  max : mg "max" = none
  min : mg "min" = none
  sum : mg "sum" = none
  all : mg "all" = none
  any : mg "any" = none
  tuple : mg "tuple" = none
  list : mg "list" = none
  isinstance : mg "isinstance" = none
  bool : mg "bool" = none
  range : mg "range" = none
  sorted : mg "sorted" = none
  zip : mg "zip" = none
  enumerate : mg "enumerate" = none
  str : mg "str" = none
  set : mg "set" = none
  dict : mg "dict" = none
end Ev
namespace L2
open PySem PySem.Spec PyProof.Rows
theorem Room.u65 {k : Nat} {A : Around} (r : Room k A) : A.units + 65 < cLine := by have := r.un; omega
theorem Room.u1 {k : Nat} {A : Around} (r : Room k A) : A.units + 1 < cLine := by have := r.un; omega
end L2
namespace Ev
open PySem PySem.Spec PyProof.Rows L2 LamX
theorem wipe_get : ∀ (ks : List Nat) {ρ : Env} {i : Nat} {d : PyData}, (wipeE ρ ks)[i]? = some (some d) → ρ[i]? = some (some d) ∧ i ∉ ks
  | [], _, _, _, h => ⟨h, by simp⟩
  | v :: vs, ρ, i, d, h => by
    rw [wipeE] at h
    by_cases e : v = i
    · subst e
      by_cases hv : v < (wipeE ρ vs).length
      · rw [List.getElem?_set_self hv] at h; cases h
      · rw [List.getElem?_eq_none (by rw [List.length_set]; omega)] at h; cases h
    · rw [List.getElem?_set_ne e] at h
      obtain ⟨h1, h2⟩ := wipe_get vs h
      exact ⟨h1, by simp [h2, Ne.symm e]⟩
theorem wipe_off : ∀ (ks : List Nat) {ρ : Env} {i : Nat}, i ∉ ks → (wipeE ρ ks)[i]? = ρ[i]?
  | [], _, _, _ => rfl
  | v :: vs, ρ, i, h => by
    rw [wipeE, List.getElem?_set_ne (fun z => h (by rw [z]; exact List.mem_cons_self))]
    exact wipe_off vs fun z => h (List.mem_cons_of_mem _ z)
/-- a target of a part of the clauses: the others' names are empty ahead of it -/
def gMore (us : List Nat) (t : Tgt) : Tgt := fun d ρ => t d (wipeE ρ us)
theorem tok_more {vs us : List Nat} {t : Tgt} (h : TgtOk vs t) (k : ∀ i ∈ vs, i ∈ us) : TgtOk us (gMore us t) := fun d ρ ρ' e => by
  obtain ⟨h1, h2⟩ := h d _ ρ' e
  exact ⟨by rw [h1, wipeE_len], fun i hi => by rw [h2 i fun z => hi (k i z), wipe_off us hi]⟩
theorem DG.more {X : Cx} {tg : Expr} {vs us : List Nat} {t : Tgt} (h : DG X tg vs t) (k : ∀ i ∈ vs, i ∈ us) : DG X tg us (gMore us t) := ⟨PG.imp h.pg fun v σ H Q ⟨a0, S, ρ, d, ρ', e1, e2, e3, q⟩ => ⟨a0, S, wipeE ρ us, d, ρ', by rw [wipeE_len]; exact e1, e2, e3, fun σ' l k1 k2 => by
  refine q σ' l (fun i hi => k1 i fun z => hi (k i z)) fun i hi d' e => ?_
  by_cases hv : i ∈ vs
  · exact k2 i hv d' e
  · rw [(h.ok d _ ρ' e3).2 i hv] at e
    exact absurd hi (wipe_get us e).2⟩, tok_more h.ok k⟩
/-- the text of _law_refused, and where it stands -/
structure RefK (K : PySem.W.Frag) (mg : Str → Option Value) (st : Stmt) : Prop where
  ex : ∃ (g : Addr) (dV kV doc pm cdv ct oc : Value) (an od : Option Addr) (osl : Array (Option Value)), mg "_law_refused" = some (.ref g) ∧ PySem.W.keepIn K (.ref g) = true ∧
    K.lookup g = some ⟨oc, od, .func (PySem.W.fnOf "_law_refused" "_law_refused" (defArgs st) (defBody st) (defScope st) dV kV doc pm an cdv ct), osl⟩ ∧ PySem.W.codeIn K cdv "_law_refused" = true ∧
    L2.Binds K (PySem.W.fnOf "_law_refused" "_law_refused" (defArgs st) (defBody st) (defScope st) dV kV doc pm an cdv ct) ["call"] []
  sc : FnScope ["call", "e"] ["call"] (defScope st)
  bd : ∃ (j : Nat) (p1 p2 p3 p4 p5 p6 p7 p8 p9 p10 p11 : Pos), defBody st = [.Try [.Expr (.Call (.Name "call" p1) [] [] p2) p3] [.ExceptHandler (some (.Name "BadArgument" p4)) (some "e") [.Return (some (.Attribute (.Name "e" p5) "name" p6)) p7] p8] [] [] p9, .Return (some (.Constant (.str "") j p10)) p11]
  ge : (defScope st).names.lookup ("BadArgument" : Str) = some .globalImplicit
  le : (defScope st).names.lookup ("e" : Str) = some .local
  va : Vis (defScope st) "call"
theorem de_ref {X : Cx} {c : Cfg} {E : XK} {st : Stmt} {cc P : Addr} {k0 : Nat} (k : Nat) {params : Arguments} {body : Expr} {scope : Scope} {p lpos pos : Pos} {den : Den} (B : Bad X.prog X.w X.K X.mg X.base c.CB) (rf : RefK X.K X.mg st) (TB : TabB X.base X.mg cc P) (hcode : X.env.code = .ref cc) (hT : c.T = [(P, X.env.qual ++ "<lambda>")])
    (hr : Room k0 X.A) (hk0 : k + 2 ≤ k0) (hbody : ∀ (A : Around) (outer : List PySem.Env) (s : Shared) (H : Hp) (E : XK) (f c' : Addr), Room k (A.deeper (lamEnv X scope s.heap.objs.size f c')) → DE (lamCx X A outer s H E scope f c') c E body den)
    (L : LamS X.env.scope scope := by exact lamS_by rfl) (hdef : defaultsOf params X.env = ([], []) := by rfl)
    (hbind : ∀ (q : Str) (cl : List (Str × Addr)) (pm cv ctv : Value), bindArgs (PySem.W.kla_fn "<lambda>" q params body scope cl pm cv ctv) ⟨[], []⟩ = pure [] := by intros; rfl) (hg : Gl X "_law_refused" := by rfl) :
    DE X c E (.Call (.Name "_law_refused" p) [.Lambda params body scope lpos] [] pos) (dRefused den) := by
  obtain ⟨g, dV, kV, doc, pm, cdv, ct, oc, an, od, osl, hm, hk, lk, hcg, hb⟩ := rf.ex
  obtain ⟨j, p1, p2, p3, p4, p5, p6, p7, p8, p9, p10, p11, hbd⟩ := rf.bd
  exact de_refused B hm hk lk hcg hb rf.sc hbd rf.ge rf.le rf.va TB hcode (by rw [hT]; exact List.mem_cons_self) (fun q hq _ => by rw [hT] at hq; rw [List.mem_singleton.mp hq]) hr hk0 hbody L hdef hbind hg
theorem lam_pass {X : Cx} {A : Around} {outer : List PySem.Env} {s : Shared} {H : Hp} {E : XK} {scope : Scope} {f c' : Addr} : Passes (L2.CX (lamCx X A outer s H E scope f c').prog (lamCx X A outer s H E scope f c').w) (lamCx X A outer s H E scope f c') E := passes_call (takes_of rfl rfl rfl rfl) fun _ _ _ _ h => h
end Ev

/-! Ev: a dict that is locked while its keys are walked -/
namespace Ev
open PySem PySem.Spec PyProof.Rows L2 LamX
theorem hns0 {i k : Nat} {n : Int} : ∀ ρ R x R', dBin subD (dRow i k) (dC (.int n)) ρ R = .ok x R' → R' = R := by
  intro ρ R x R' h
  unfold dBin dRow dC at h
  cases h1 : rowAt ρ i with
  | none => simp [h1, ofO] at h
  | some r =>
    cases h2 : R.get k with
    | none => simp [h1, h2, ofO] at h
    | some z =>
      simp only [h1, h2, ofO, bind_ok] at h
      split at h
      · cases h; rfl
      · cases h
/-- what data lean on stands, though a dict be locked or let go -/
structure SubR (H H' : Hp) : Prop where
  l : ∀ b xs, H b = some (.lst xs) → H' b = some (.lst xs)
  t : ∀ b xs, H b = some (.tup xs) → H' b = some (.tup xs)
  k : ∀ b xs, Rd H b (.dK xs) → Rd H' b (.dK xs)
  kt : ∀ b xs, Rd H b (.dT xs) → Rd H' b (.dT xs)
section
variable {K : PySem.W.Frag} {a0 : Addr} {H H' : Hp}
mutual
theorem Rep.rd (s : SubR H H') {v : V} {d : PyData} (r : Rep K a0 H v d) : Rep K a0 H' v d := by
  cases r with
  | non => exact .non
  | bl b => exact .bl b
  | int i => exact .int i
  | str x => exact .str x
  | lst h r => exact .lst (s.l _ _ h) (RepA.rd s r)
  | tup h r => exact .tup (s.t _ _ h) (RepA.rd s r)
  | dK h r => exact .dK (s.k _ _ h) (RepK.rd s r)
  | dT h r => exact .dT (s.kt _ _ h) (RepT.rd s r)
  | row => exact .row
theorem RepA.rd (s : SubR H H') {v : List V} {d : List PyData} (r : RepA K a0 H v d) : RepA K a0 H' v d := by
  cases r with
  | nil => exact .nil
  | cons h r => exact .cons (Rep.rd s h) (RepA.rd s r)
theorem RepK.rd (s : SubR H H') {v : List (Key × V)} {d : List (PyData × PyData)} (r : RepK K a0 H v d) : RepK K a0 H' v d := by
  cases r with
  | nil => exact .nil
  | cons h r => exact .cons (Rep.rd s h) (RepK.rd s r)
theorem RepT.rd (s : SubR H H') {v : List (List Key × V)} {d : List (PyData × PyData)} (r : RepT K a0 H v d) : RepT K a0 H' v d := by
  cases r with
  | nil => exact .nil
  | cons h r => exact .cons (Rep.rd s h) (RepT.rd s r)
end
end
/-- a dict -/
def Dct (u : HO) : Prop := (∃ kvs, u = .dK kvs) ∨ ∃ kvs, u = .dT kvs
theorem Dct.nl {u : HO} (h : Dct u) : ∀ xs, u ≠ .lst xs := fun xs z => by rcases h with ⟨_, h⟩ | ⟨_, h⟩ <;> (rw [h] at z; cases z)
theorem Dct.nu {u : HO} (h : Dct u) : ∀ xs, u ≠ .tup xs := fun xs z => by rcases h with ⟨_, h⟩ | ⟨_, h⟩ <;> (rw [h] at z; cases z)
theorem Dct.nf {u : HO} (h : Dct u) : ∀ o v, u ≠ .frz o v := fun o v z => by rcases h with ⟨_, h⟩ | ⟨_, h⟩ <;> (rw [h] at z; cases z)
theorem Dct.nt {u : HO} (h : Dct u) : ∀ ps, u ≠ .tbl ps := fun o z => by rcases h with ⟨_, h⟩ | ⟨_, h⟩ <;> (rw [h] at z; cases z)
theorem Dct.nx {u : HO} (h : Dct u) : ∀ φ, u ≠ .ext φ := fun o z => by rcases h with ⟨_, h⟩ | ⟨_, h⟩ <;> (rw [h] at z; cases z)
theorem Dct.mut {u : HO} (h : Dct u) : Mut (some u) := by rcases h with ⟨_, h⟩ | ⟨_, h⟩ <;> (rw [h]; trivial)
theorem subR_upd {H : Hp} {d : Addr} {o o' u : HO} (hu : Dct u) (e : H d = some o) (h : (o = u ∧ ∃ ob, o' = .frz ob u) ∨ ((∃ ob, o = .frz ob u) ∧ o' = u)) (S : List Addr) : SubR (hide H S) (hide (upd H d o') S) := by
  have nd : ∀ b x, b ∉ S → H b = some x → x ≠ o → (hide (upd H d o') S) b = some x := fun b x nb hb ne => by
    rw [hide_out nb, upd_ne (fun z => ne (by rw [z, e] at hb; exact (Option.some.inj hb).symm))]
    exact hb
  have rd : ∀ b x, Dct x → Rd (hide H S) b x → Rd (hide (upd H d o') S) b x := fun b x hx hb => by
    rcases hb with hb | ⟨ob, hb⟩
    · obtain ⟨nb, hb⟩ := of_hide hb
      by_cases z : b = d
      · have t := hb
        rw [z, e] at t
        have t := Option.some.inj t
        rcases h with ⟨h, ob, h'⟩ | ⟨⟨ob, h⟩, h'⟩
        · exact .inr ⟨ob, by rw [hide_out nb, z, upd_same, h', ← h, t]⟩
        · exact absurd (t.symm.trans h) (hx.nf _ _)
      · exact .inl (by rw [hide_out nb, upd_ne z]; exact hb)
    · obtain ⟨nb, hb⟩ := of_hide hb
      by_cases z : b = d
      · have t := hb
        rw [z, e] at t
        have t := Option.some.inj t
        rcases h with ⟨h, ob', h'⟩ | ⟨⟨ob', h⟩, h'⟩
        · exact absurd (h.symm.trans t) (hu.nf _ _)
        · have t2 := t.symm.trans h
          cases t2
          exact .inl (by rw [hide_out nb, z, upd_same, h'])
      · exact .inr ⟨ob, by rw [hide_out nb, upd_ne z]; exact hb⟩
  have no : ∀ x : HO, (∀ ob, x ≠ .frz ob u) → x ≠ u → x ≠ o := fun x n1 n2 z => by
    rcases h with ⟨h, _⟩ | ⟨⟨ob, h⟩, _⟩
    · exact n2 (z.trans h)
    · exact n1 ob (z.trans h)
  refine ⟨fun b xs hb => ?_, fun b xs hb => ?_, fun b xs hb => rd b _ (.inl ⟨xs, rfl⟩) hb, fun b xs hb => rd b _ (.inr ⟨xs, rfl⟩) hb⟩
  · obtain ⟨nb, hb⟩ := of_hide hb
    exact nd b _ nb hb (no _ (fun _ z => by cases z) fun z => hu.nl xs z.symm)
  · obtain ⟨nb, hb⟩ := of_hide hb
    exact nd b _ nb hb (no _ (fun _ z => by cases z) fun z => hu.nu xs z.symm)
theorem tabs_upd {T : List (Addr × Str)} {H : Hp} {d : Addr} {o o' : HO} (e : H d = some o) (h1 : ∀ ps, o ≠ .tbl ps) (h2 : ∀ φ, o ≠ .ext φ) (t : Tabs T H) : Tabs T (upd H d o') := fun p hp => by
  obtain ⟨ps, a, b, c⟩ := t p hp
  refine ⟨ps, by rw [upd_ne (fun z => by rw [z, e] at a; exact h1 ps (Option.some.inj a))]; exact a, b, fun pos cv hc => ?_⟩
  obtain ⟨cc, e1, e2⟩ := c pos cv hc
  exact ⟨cc, e1, by rw [upd_ne (fun z => by rw [z, e] at e2; exact h2 _ (Option.some.inj e2))]; exact e2⟩
def noX {α : Type} (r : Res α) : Res α := match r with
  | .exc _ _ => .stuck
  | .ok a R => .ok a R
  | .stuck => .stuck
theorem Ends.noX {α : Type} {r : Res α} {ok : α → Row → Prop} {ex ex' : Str → Row → Prop} (h : Ends (noX r) ok ex) : Ends r ok ex' := by
  cases r with
  | ok a R => exact h
  | exc n R => exact h.elim
  | stuck => exact h
def keysD : PyData → Option (List PyData)
  | .dict ps => if ps.all (fun p => (toKey p.1).isSome) then some (ps.map (·.1)) else none
  | _ => none
/-- for t in x: body, x a dict (of keys that are ints or texts) in slot i -/
def sForK (ks : List Nat) (i : Nat) (t : Tgt) (body : DenS) : DenS := fun ρ R => if i ∈ ks then .stuck else (ofO ((valAt ρ i).bind keysD) R).bind fun ds R1 => noX (forM (turnF t body) ds ρ R1)
section
variable {K : PySem.W.Frag} {c : Cfg} {a0 : Addr} {S : List Addr} {H0 Vi H : Hp} {A : List (Nat × Addr)} {ρ : Env} {R : Row} {σ : L2.St} {O : List Nat}
theorem repK_get : ∀ {kvs : List (Key × V)} {ps : List (PyData × PyData)} {i : Nat} {k : Key} {v : V}, RepK K a0 H kvs ps → kvs[i]? = some (k, v) → (ps.map (·.1))[i]? = some (keyD k)
  | _, _, _, _, _, .nil, e => by simp at e
  | _, _, 0, _, _, .cons _ _, e => by
    simp at e
    obtain ⟨rfl, rfl⟩ := e
    rfl
  | _, _, i + 1, _, _, .cons _ r, e => by
    have := repK_get (i := i) r (by simpa using e)
    simpa using this
theorem repK_len : ∀ {kvs : List (Key × V)} {ps : List (PyData × PyData)}, RepK K a0 H kvs ps → kvs.length = ps.length
  | _, _, .nil => rfl
  | _, _, .cons _ r => by rw [List.length_cons, List.length_cons, repK_len r]
theorem rep_key {H : Hp} (k : Key) : Rep K a0 H (kV k) (keyD k) := by
  cases k with
  | inl i => exact .int i
  | inr x => exact .str x
theorem walks_keys {d : Addr} {o : Obj} {kvs : List (Key × V)} {ps : List (PyData × PyData)} (h : hide H S d = some (.frz o (.dK kvs))) (r : RepK K a0 (hide H S) kvs ps) : Walks K a0 S (Itk d o kvs) H (ps.map (·.1)) := by
  intro S'
  have up : ∀ H2, (Sub (hide H S) (hide H2 S') ∧ ∀ b ∈ S', H2 b ≠ none) → H2 d = some (.frz o (.dK kvs)) := fun H2 s => (of_hide (s.1 _ _ h nt_frz)).2
  have hl : (ps.map (·.1)).length = kvs.length := by rw [List.length_map, repK_len r]
  refine ⟨fun i H2 hi s => ⟨up H2 s, by omega⟩, fun H2 s => ⟨up H2 s, by omega⟩, fun i H2 x H' hi s y => ?_⟩
  obtain ⟨e1, k, v, e2, e3⟩ := y
  subst e1 e3
  exact ⟨.inl rfl, keyD k, repK_get r e2, rep_key k⟩
theorem OwnAt.rd {Hh Hv H H' : Hp} {a : Addr} {x : PyData} (h : OwnAt K a0 Hh H a x) (s : SubR Hh Hv) (e : H' a = H a) : OwnAt K a0 Hv H' a x := by
  cases x with
  | list ds => obtain ⟨xs, h, r⟩ := h; exact ⟨xs, by rw [e]; exact h, r.rd s⟩
  | dict ps =>
    rcases h with ⟨xs, h, r⟩ | ⟨xs, h, r⟩
    · exact .inl ⟨xs, by rw [e]; exact h, r.rd s⟩
    · exact .inr ⟨xs, by rw [e]; exact h, r.rd s⟩
  | _ => exact h.elim
theorem wd_lock {d : Addr} {od : Obj} {u : HO} (w : Wd K c a0 S H0 H R) (hu : Dct u) (hd : H d = some u) (nS : d ∉ S) : Wd K c a0 S (upd H0 d (.frz od u)) (upd H d (.frz od u)) R := by
  refine ⟨w.a0S, fun b hb => ?_, fun b o n e nt => ?_, ?_, tabs_upd hd hu.nt hu.nx w.tabs⟩
  · obtain ⟨o, e, n⟩ := w.sS b hb
    exact ⟨o, by rw [upd_ne (fun (z : b = d) => nS (by rw [← z]; exact hb))]; exact e, n⟩
  · by_cases z : b = d
    · rw [z, upd_same] at e ⊢; exact e
    · rw [upd_ne z] at e ⊢; exact w.gr b o n e nt
  · obtain ⟨sc, h, f⟩ := w.row
    have na : a0 ≠ d := fun z => nS (z ▸ w.a0S)
    refine ⟨sc, by rw [upd_ne na]; exact h, f.mono fun o u e => ?_⟩
    rw [upd_ne (fun z => by rw [z, hd] at e; exact hu.nf _ _ (Option.some.inj e))]
    exact e
theorem wd_unlock {d : Addr} {od : Obj} {u : HO} {H1 : Hp} {R1 : Row} (w : Wd K c a0 S H0 H R) (hu : Dct u) (hd : H d = some u) (nS : d ∉ S) (w1 : Wd K c a0 S (upd H0 d (.frz od u)) H1 R1) : H1 d = some (.frz od u) ∧ Wd K c a0 S H0 (upd H1 d u) R1 := by
  have na : d ≠ a0 := fun z => nS (z ▸ w.a0S)
  have h1 : H1 d = some (.frz od u) := w1.gr d _ na upd_same nt_frz
  refine ⟨h1, w.a0S, w.sS, fun b o n e nt => ?_, ?_, tabs_upd h1 (fun _ z => by cases z) (fun _ z => by cases z) w1.tabs⟩
  · by_cases z : b = d
    · have := w.gr b o n e nt
      rw [z, hd] at this
      rw [z, upd_same]; exact this
    · rw [upd_ne z]
      exact w1.gr b o n (by rw [upd_ne z]; exact e) nt
  · obtain ⟨sc, h, f⟩ := w1.row
    refine ⟨sc, by rw [upd_ne (Ne.symm na)]; exact h, ?_⟩
    rcases f with ⟨o, f⟩ | f
    · exact .inl ⟨o, by rw [upd_ne (fun z => by rw [z, h1] at f; cases f; exact hu.nl _ rfl)]; exact f⟩
    · exact .inr f
theorem sta_lock {d : Addr} {od : Obj} {u : HO} (sa : StA K c a0 S H0 Vi A ρ R σ H) (hu : Dct u) (hd : hide H (A.map (·.2) ++ S) d = some u) :
    StA K c a0 S (upd H0 d (.frz od u)) (hide (upd H d (.frz od u)) (A.map (·.2) ++ S)) A ρ R σ (upd H d (.frz od u)) := by
  obtain ⟨nd, hd⟩ := of_hide hd
  have nS : d ∉ S := fun z => nd (List.mem_append_right _ z)
  have s : SubR (hide H (A.map (·.2) ++ S)) (hide (upd H d (.frz od u)) (A.map (·.2) ++ S)) := subR_upd hu hd (.inl ⟨rfl, od, rfl⟩) _
  have nA : ∀ p ∈ A, p.2 ≠ d := fun p hp z => nd (List.mem_append_left _ (List.mem_map.mpr ⟨p, hp, z⟩))
  refine ⟨wd_lock sa.w hu hd nS, sa.nd1, sa.nd2, fun p hp => ?_, sa.len, fun i x e n => ?_, Sub.refl _⟩
  · obtain ⟨f, e1, x, e2, ho⟩ := sa.own p hp
    exact ⟨fun o e => f o (by rw [upd_ne (nA p hp)] at e; exact e), e1, x, e2, ho.rd s (upd_ne (nA p hp))⟩
  · obtain ⟨v, e1, r⟩ := sa.rest i x e n
    exact ⟨v, e1, r.rd s⟩
theorem sta_unlock {d : Addr} {od : Obj} {u : HO} {A1 : List (Nat × Addr)} {H1 : Hp} {ρ1 : Env} {R1 : Row} {σ1 : L2.St} (sa : StA K c a0 S H0 Vi A ρ R σ H) (hu : Dct u) (hd : hide H (A.map (·.2) ++ S) d = some u)
    (s1 : StA K c a0 S (upd H0 d (.frz od u)) (hide (upd H d (.frz od u)) (A.map (·.2) ++ S)) A1 ρ1 R1 σ1 H1) : H1 d = some (.frz od u) ∧ StA K c a0 S H0 Vi A1 ρ1 R1 σ1 (upd H1 d u) := by
  obtain ⟨nd, hd'⟩ := of_hide hd
  have nS : d ∉ S := fun z => nd (List.mem_append_right _ z)
  obtain ⟨h1, w⟩ := wd_unlock sa.w hu hd' nS s1.w
  have s : SubR (hide H1 (A1.map (·.2) ++ S)) (hide (upd H1 d u) (A1.map (·.2) ++ S)) := subR_upd hu h1 (.inr ⟨⟨od, rfl⟩, rfl⟩) _
  have nA : ∀ p ∈ A1, p.2 ≠ d := fun p hp z => (s1.own p hp).1 _ (by rw [z]; exact upd_same) nt_frz
  refine ⟨h1, w, s1.nd1, s1.nd2, fun p hp => ?_, s1.len, fun i x e n => ?_, fun b o e nt => ?_⟩
  · obtain ⟨f, e1, x, e2, ho⟩ := s1.own p hp
    exact ⟨fun o e => f o (by rw [upd_ne (nA p hp)]; exact e), e1, x, e2, ho.rd s (upd_ne (nA p hp))⟩
  · obtain ⟨v, e1, r⟩ := s1.rest i x e n
    exact ⟨v, e1, r.rd s⟩
  · have e1 := sa.vis b o e nt
    obtain ⟨nb, e2⟩ := of_hide e1
    by_cases z : b = d
    · subst z
      rw [hd'] at e2
      rw [hide_out, upd_same]
      · exact e2
      · intro y
        rcases List.mem_append.mp y with y | y
        · obtain ⟨p, hp, e⟩ := List.mem_map.mp y
          exact nA p hp e
        · exact nS y
    · have e3 := s1.vis b o (by rw [hide_out nb, upd_ne z]; exact e2) nt
      obtain ⟨nb1, e4⟩ := of_hide e3
      rw [hide_out nb1, upd_ne z]
      exact e4
end
section
variable {X : Cx} {c : Cfg} {E : XK} {OL O : List Nat} {pos : Pos}
theorem keysD_inv {K : PySem.W.Frag} {a0 : Addr} {H : Hp} {v : V} {x : PyData} {ds : List PyData} (r : Rep K a0 H v x) (h : keysD x = some ds) : ∃ d ps, v = .ref d ∧ x = .dict ps ∧ ds = ps.map (·.1) ∧ ((∃ kvs, Rd H d (.dK kvs) ∧ RepK K a0 H kvs ps) ∨ (ps = [] ∧ Rd H d (.dT []))) := by
  cases x with
  | dict ps =>
    have h : (if ps.all (fun p => (toKey p.1).isSome) = true then some (ps.map (·.1)) else none) = some ds := h
    by_cases ha : (ps.all fun p => (toKey p.1).isSome) = true
    · rw [if_pos ha] at h
      have h := (Option.some.inj h).symm
      obtain ⟨d, e, q⟩ := r.dict_inv
      refine ⟨d, ps, e, rfl, h, ?_⟩
      rcases q with q | ⟨kvs, h1, h2⟩ | ⟨_, h2⟩
      · exact .inl q
      · cases h2 with
        | nil => exact .inr ⟨rfl, h1⟩
        | cons _ _ => simp [toKey, keyT] at ha
      · subst h2
        simp [toKey] at ha
    · rw [if_neg ha] at h; cases h
  | _ => cases h
theorem walks_keysT {K : PySem.W.Frag} {a0 : Addr} {S : List Addr} {H : Hp} {d : Addr} {o : Obj} (h : hide H S d = some (.frz o (.dT []))) : Walks K a0 S (Itkt d o []) H [] := by
  intro S'
  have up : ∀ H2, (Sub (hide H S) (hide H2 S') ∧ ∀ b ∈ S', H2 b ≠ none) → H2 d = some (.frz o (.dT [])) := fun H2 s => (of_hide (s.1 _ _ h nt_frz)).2
  exact ⟨fun i H2 hi s => absurd hi (by simp), fun H2 s => ⟨up H2 s, by simp⟩, fun i H2 x H' hi s y => absurd hi (by simp)⟩
/-- both kinds of dicts, locked -/
theorem iKeys_go {K : PySem.W.Frag} {a0 : Addr} {S : List Addr} {H : Hp} {d : Addr} {o : Obj} {ps : List (PyData × PyData)} {R : It → Hp → Prop} (h : (∃ kvs, hide H S d = some (.frz o (.dK kvs)) ∧ RepK K a0 (hide H S) kvs ps) ∨ (ps = [] ∧ hide H S d = some (.frz o (.dT []))))
    (q : ∀ J, Walks K a0 S J H (ps.map (·.1)) → R J H) : ((∃ kvs, H d = some (.frz o (.dK kvs)) ∧ R (Itk d o kvs) H) ∨ ∃ kvs, H d = some (.frz o (.dT kvs)) ∧ R (Itkt d o kvs) H) := by
  rcases h with ⟨kvs, h1, h2⟩ | ⟨e, h1⟩
  · exact .inl ⟨kvs, (of_hide h1).2, q _ (walks_keys h1 h2)⟩
  · subst e
    exact .inr ⟨[], (of_hide h1).2, q _ (walks_keysT h1)⟩
theorem ds_forK (ks : List Nat) (i : Nat) {x : Str} {p1 : Pos} {tg : Expr} {body : List Stmt} {vs : List Nat} {t : Tgt} {db : DenS} (hp : PassesOwn (model X.prog X.w) X.A X.env X.xe) (hc : X.calm = true) (tok : TgtOk vs t) (hg : DG X tg vs t) (hb : DSs X c E ks (minus ks vs) ks body db) (hk : ∀ i ∈ ks, i ∈ O := by decide)
    (hN : X.N[i]? = some x := by rfl) (hv : Vis X.env.scope x := by first | exact Or.inl rfl | exact Or.inr (Or.inl rfl) | exact Or.inr (Or.inr rfl)) (hd : (x == ("__debug__" : Str)) = false := by decide) (hcd : (x == ("__classdict__" : Str)) = false := by decide)
    (hs : ∀ y, foldedSetIterable (.Name x p1) X.env y = pure y := by intro _; rfl) : DS X c E OL O ks (.For tg (.Name x p1) body [] pos) (sForK ks i t db) := by
  have base := ps_for hp hc (pi_keys (pe_var hN hv hd hcd)) hg.pg hb hs (pos := pos)
  have both : PS X (.For tg (.Name x p1) body [] pos) (fun D σ H => tLock (tFor (iKeys (tVar i)) (tG X.K vs t) (tS X.K c E ks (minus ks vs) ks db)) D σ H ∨ tFor (iKeys (tVar i)) (tG X.K vs t) (tS X.K c E ks (minus ks vs) ks db) D σ H) :=
    ⟨fun pins s σ H D I q => q.elim ((ps_lock base).run pins s σ H D I) (base.run pins s σ H D I)⟩
  refine PS.imp both fun D σ H ⟨a0, S, H0, Vi, ρ, R, st, p⟩ => ?_
  obtain ⟨A, sa, h1, h2⟩ := st.drop hk
  unfold sForK at p
  by_cases hi : i ∈ ks
  · rw [if_pos hi] at p; exact p.elim
  rw [if_neg hi] at p
  obtain ⟨ds, e1, p⟩ := Ends.ofO (Ends.bind p)
  obtain ⟨x0, e2, e3⟩ := Option.bind_eq_some_iff.mp e1
  have e4 : ρ[i]? = some (some x0) := by
    unfold valAt at e2
    cases e5 : ρ[i]? with
    | none => rw [e5] at e2; cases e2
    | some y => rw [e5] at e2; exact congrArg some e2
  obtain ⟨v, hσ, r⟩ := sa.rest i x0 e4 fun z => hi (h2 i z)
  obtain ⟨d, ps, ev, ex, ed, hd2⟩ := keysD_inv r e3
  subst ev ex ed
  have fz : ∀ {H1 : Hp} {D1 : L2.Ends} {H01 V1 : Hp} (o : Obj), StA X.K c a0 S H01 V1 A ρ R σ H1 → ((∃ kvs, hide H1 (A.map (·.2) ++ S) d = some (.frz o (.dK kvs)) ∧ RepK X.K a0 (hide H1 (A.map (·.2) ++ S)) kvs ps) ∨ (ps = [] ∧ hide H1 (A.map (·.2) ++ S) d = some (.frz o (.dT [])))) →
      Ends (forM (turnF t db) (ps.map (·.1)) ρ R) (EndF X.K c OL ks D1 a0 S H01 V1) (Ex X.K c E a0 S H01) → tFor (iKeys (tVar i)) (tG X.K vs t) (tS X.K c E ks (minus ks vs) ks db) D1 σ H1 := by
    intro H1 D1 H01 V1 o sa1 hz q
    refine ⟨.ref d, hσ, d, o, rfl, ?_⟩
    rcases hz with ⟨kvs, z1, z2⟩ | ⟨e, z1⟩
    · exact .inl ⟨kvs, (of_hide z1).2, for_go tok sa1 h1 h2 (walks_keys z1 z2) q⟩
    · subst e
      exact .inr ⟨[], (of_hide z1).2, for_go tok sa1 h1 h2 (walks_keysT z1) q⟩
  -- locked already, or locked for the loop
  have go : ∀ u : HO, Dct u → hide H (A.map (·.2) ++ S) d = some u → (∀ od, ((∃ kvs, u = .dK kvs ∧ RepK X.K a0 (hide (upd H d (.frz od u)) (A.map (·.2) ++ S)) kvs ps) ∨ (ps = [] ∧ u = .dT []))) → tLock (tFor (iKeys (tVar i)) (tG X.K vs t) (tS X.K c E ks (minus ks vs) ks db)) D σ H := by
    intro u hu hdu hcase
    obtain ⟨nd, hdu'⟩ := of_hide hdu
    refine ⟨d, u, hdu', hu.mut, fun od => ?_⟩
    have hl : hide (upd H d (.frz od u)) (A.map (·.2) ++ S) d = some (.frz od u) := hide_upd_out nd
    refine fz od (sta_lock (od := od) sa hu hdu) ?_ (p.noX.mono (fun fl R1 q => ?_) fun _ _ z => z)
    · rcases hcase od with ⟨kvs, e, rk⟩ | ⟨e, e'⟩
      · exact .inl ⟨kvs, by rw [hl, e], rk⟩
      · exact .inr ⟨e, by rw [hl, e']⟩
    · cases fl with
      | nx ρ1 =>
        rintro σ1 H1 ⟨A1, s1, g1, g2⟩
        obtain ⟨z1, z2⟩ := sta_unlock sa hu hdu s1
        exact ⟨z1, q σ1 _ ⟨A1, z2, g1, g2⟩⟩
      | rt y =>
        intro v1 H1 w1 r1
        obtain ⟨z1, z2⟩ := wd_unlock sa.w hu hdu' (fun z => nd (List.mem_append_right _ z)) w1
        exact ⟨z1, q v1 _ z2 (r1.rd (subR_upd hu z1 (.inr ⟨⟨od, rfl⟩, rfl⟩) S))⟩
      | bk ρ1 =>
        rintro σ1 H1 ⟨A1, s1, g1, g2⟩
        obtain ⟨z1, z2⟩ := sta_unlock sa hu hdu s1
        exact ⟨z1, q σ1 _ ⟨A1, z2, g1, g2⟩⟩
      | ct ρ1 =>
        rintro σ1 H1 ⟨A1, s1, g1, g2⟩
        obtain ⟨z1, z2⟩ := sta_unlock sa hu hdu s1
        exact ⟨z1, q σ1 _ ⟨A1, z2, g1, g2⟩⟩
  rcases hd2 with ⟨kvs, hr, rk⟩ | ⟨e, hr⟩
  · rcases hr with hr | ⟨o, hr⟩
    · exact .inl (go _ (.inl ⟨kvs, rfl⟩) hr fun od => .inl ⟨kvs, rfl, rk.rd (subR_upd (.inl ⟨kvs, rfl⟩) (of_hide hr).2 (.inl ⟨rfl, od, rfl⟩) _)⟩)
    · exact .inr (fz o sa (.inl ⟨kvs, hr, rk⟩) (p.noX.mono (fun _ _ z => z) fun _ _ z => z))
  · rcases hr with hr | ⟨o, hr⟩
    · exact .inl (go _ (.inr ⟨[], rfl⟩) hr fun od => .inr ⟨e, rfl⟩)
    · exact .inr (fz o sa (.inr ⟨e, hr⟩) (p.noX.mono (fun _ _ z => z) fun _ _ z => z))
end
end Ev

/-! Ev: pairs that are walked; dict displays -/
namespace L2
open PySem PySem.Spec PyProof.Rows RZ
theorem walk_zipT {K : PySem.W.Frag} {a b : Addr} {xs ys : List V} {n : Nat} (hn : n = min xs.length ys.length) : Walk (ItzT K a b) n (fun H => SqT K H a xs ∧ SqT K H b ys) (YPair (fun i => xs[i]?) (fun i => ys[i]?)) := by
  subst hn
  refine ⟨fun i _ hi q => ?_, fun _ q => ⟨xs, ys, q.1, q.2, by omega⟩, fun i H v H' _ q y => ?_⟩
  · have h1 : i < xs.length := by omega
    have h2 : i < ys.length := by omega
    exact ⟨xs, ys, xs[i], ys[i], q.1, q.2, by simp [h1], by simp [h2]⟩
  · obtain ⟨T, x, z, h1, h2, h3, h4, h5⟩ := y
    exact ⟨T, x, z, h1, h2, h3, h4 xs q.1, h5 ys q.2⟩
end L2
namespace Ev
open PySem PySem.Spec PyProof.Rows L2 LamX RZ
def pairD (xs ys : List PyData) : List PyData := (xs.zip ys).map fun p => .tuple [p.1, p.2]
section
variable {K : PySem.W.Frag} {c : Cfg} {E : XK} {a0 : Addr} {S : List Addr} {H : Hp} {R : Row}
theorem pairD_len (xs ys : List PyData) : (pairD xs ys).length = min xs.length ys.length := by unfold pairD; simp
theorem pairD_get {xs ys : List PyData} {i : Nat} {x y : PyData} (h1 : xs[i]? = some x) (h2 : ys[i]? = some y) : (pairD xs ys)[i]? = some (.tuple [x, y]) := by
  unfold pairD
  have e : (xs.zip ys)[i]? = some (x, y) := List.getElem?_zip_eq_some.mpr ⟨h1, h2⟩
  rw [List.getElem?_map, e]
  rfl
theorem walks_pairs {J : It} {xs ys : List V} {ds es : List PyData} {G : Hp → Prop} (r1 : RepA K a0 (hide H S) xs ds) (r2 : RepA K a0 (hide H S) ys es) (w : Walk J (min xs.length ys.length) G (YPair (fun i => xs[i]?) (fun i => ys[i]?)))
    (up : ∀ S' H2, (Sub (hide H S) (hide H2 S') ∧ ∀ b ∈ S', H2 b ≠ none) → G H2) : Walks K a0 S J H (pairD ds es) := by
  intro S'
  rw [pairD_len, ← r1.length, ← r2.length]
  refine w.mono (fun H2 s => up S' H2 s) fun i H2 x H' hi s y => ?_
  obtain ⟨T, u, v, h1, h2, h3, h4, h5⟩ := y
  obtain ⟨d1, e1, q1⟩ := r1.getV h4
  obtain ⟨d2, e2, q2⟩ := r2.getV h5
  subst h1 h3
  refine ⟨.inr ⟨T, _, h2, rfl⟩, _, pairD_get e1 e2, ?_⟩
  exact pair_rep h2 (fun z => s.2 T z h2) (q1.mono s.1) (q2.mono s.1)
end
section
variable {X : Cx} {c : Cfg} {E : XK} {tg : Expr} {p pos tpos : Pos} {elts : List Expr} {kk : Nat}
def zipD : List PyData → Option (List PyData)
  | [.list xs, .list ys] => some (pairD xs ys)
  | [.tuple xs, .tuple ys] => some (pairD xs ys)
  | _ => none
def lZip (l : DenL) : DenL := fun ρ R => (l ρ R).bind fun ds R1 => ofO (zipD ds) R1
theorem di_zip {e e2 : Expr} {l : DenL} (ha : DEs X c E [e, e2] l) (hm : X.mg "zip" = none) (hg : Gl X "zip" := by rfl) (hs : starEach [e, e2] X.env = (false, eval e X.env) :: starEach [e2] X.env := by rfl) (hpl : (backTo pos (starEach [e2] X.env)).any (·.1) = false := by rfl) :
    DI X c E (.Tuple elts kk tpos) (.Call (.Name "zip" p) [e, e2] [] pos) (lZip l) := by
  refine PI.imp (pi_zipA hg hm ha hs hpl) fun σ H Q ⟨a0, S, ρ, R, w, en, p⟩ => tDL_of w en (ends_next p fun xs R1 p vs H1 w1 r1 => ?_)
  obtain ⟨ds, e, q⟩ := Ends.ofO p
  unfold zipD at e
  split at e
  · cases e
    obtain ⟨v, u, rfl, r8, r9⟩ := repA_two r1
    obtain ⟨a, as, rfl, h1, rA⟩ := r8.list_inv
    obtain ⟨b, bs, rfl, h2, rB⟩ := r9.list_inv
    refine ⟨a, b, as, bs, rfl, .inl ⟨.inl (.inl (of_hide h1).2), .inl (.inl (of_hide h2).2), q _ _ w1 (walks_pairs rA rB (walk_zip rfl) fun S' H2 s => ⟨.inl (.inl (of_hide (s.1 _ _ h1 nt_lst)).2), .inl (.inl (of_hide (s.1 _ _ h2 nt_lst)).2)⟩)⟩⟩
  · cases e
    obtain ⟨v, u, rfl, r8, r9⟩ := repA_two r1
    obtain ⟨a, as, rfl, h1, rA⟩ := r8.tup_inv
    obtain ⟨b, bs, rfl, h2, rB⟩ := r9.tup_inv
    refine ⟨a, b, as, bs, rfl, .inr ⟨.inl (.inl (of_hide h1).2), .inl (.inl (of_hide h2).2), q _ _ w1 (walks_pairs rA rB (walk_zipT rfl) fun S' H2 s => ⟨.inl (.inl (of_hide (s.1 _ _ h1 nt_tup)).2), .inl (.inl (of_hide (s.1 _ _ h2 nt_tup)).2)⟩)⟩⟩
  · cases e
/-- {k: v}, the key an int or a text -/
def dDisp1 (dk dv : Den) : Den := fun ρ R => (dk ρ R).bind fun k R1 => (dv ρ R1).bind fun v R2 => if (toKey k).isSome then .ok (.dict [(k, v)]) R2 else .stuck
theorem df_disp1 {k v : Expr} {dk dv : Den} (hk : DE X c E k dk) (hv : DE X c E v dv) : DF X c E (.Dict [some k] [v] pos) (dDisp1 dk dv) := by
  refine PE.imp (pe_disp (pps_cons hk hv pps_nil) rfl rfl (by simp) (show 1 ≤ 15 by decide)) fun σ H Q ⟨a0, S, ρ, R, w, en, q⟩ p hp => ?_
  have w0 : Wd X.K c a0 S H (upd H p (.dK [])) R := w.new hp
  have wp : Wd X.K c a0 (p :: S) (upd H p (.dK [])) (upd H p (.dK [])) R := w0.here.add upd_same nt_dK
  have s0 : Sub (hide H S) (hide (upd H p (.dK [])) (p :: S)) := fun b o h n => by
    obtain ⟨nb, h⟩ := of_hide h
    have e : b ≠ p := ne_of_none h hp
    rw [hide_out (fun z => (List.mem_cons.mp z).elim e nb), upd_ne e]
    exact h
  have na : p ≠ a0 := fun z => by
    obtain ⟨sc, e, _⟩ := w.row
    rw [← z, hp] at e; cases e
  have back : ∀ {H' R'}, Wd X.K c a0 (p :: S) (upd H p (.dK [])) H' R' → Wd X.K c a0 S H H' R' := fun w' => w0.trans (w'.less (fun b hb => List.mem_cons_of_mem _ hb) w.a0S)
  refine ⟨a0, p :: S, ρ, R, wp, en.mono s0, (Ends.bind q).mono (fun x R1 q u H1 w1 r1 => ?_) fun nm R1 e dx H' w' h => e dx H' (back w') h⟩
  refine ⟨a0, p :: S, ρ, R1, w1.here, (en.mono s0).mono w1.sub, (Ends.bind q).mono (fun y R2 q z H2 w2 r2 => ?_) fun nm R1 e dx H' w' h => e dx H' (back (w1.trans w')) h⟩
  split at q
  · rename_i hkey
    have w12 := w1.trans w2
    have h2 : H2 p = some (.dK []) := w12.gr p _ na upd_same nt_dK
    cases ek : toKey x with
    | none => rw [ek] at hkey; cases hkey
    | some key =>
      have ex := toKey_eq ek
      have eu : u = kV key := by
        rw [ex] at r1
        cases key with
        | inl i => exact r1.int_inv
        | inr t => exact r1.str_inv
      refine ⟨h2, [(key, z)], by rw [eu]; rfl, (show 1 ≤ 15 by decide), ?_⟩
      have hf : Fr H p := fun o e => by rw [hp] at e; cases e
      refine q p _ hf ((back w12).putO hf h2 True.intro na) (.inl ⟨[(key, z)], upd_same, ?_⟩)
      rw [ex]
      refine .cons (r2.mono fun b o h n => ?_) .nil
      obtain ⟨nb, h⟩ := of_hide h
      rw [hide_out nb, upd_ne (fun e => nb (by rw [e]; exact List.mem_cons_self))]
      exact h
  · exact q.elim
end
end Ev
namespace Ev
open PySem
/-- an error of the class at S is what «except S» names -/
theorem exm_self {K : PySem.W.Frag} {S : Addr} (h1 : PySem.W.subIn K (.ref S) (.type "BaseException") = some true) (h2 : PySem.W.isClsIn K S = true) (h3 : PySem.W.typeIn K (.ref S) = some (.type "type")) (h4 : PySem.W.subIn K (.ref S) (.ref S) = some true) :
    PySem.W.exmOne K (.ref S) (.ref S) = some true := by
  have e1 : (PySem.W.subIn K (.ref S) (.type "BaseException") == some true) = true := by rw [h1] <;> rfl
  have e2 : ((PySem.W.clsIn K S).isSome && PySem.W.typeIn K (.ref S) == some (.type "type")) = true := by
    have h2' : (PySem.W.clsIn K S).isSome = true := h2
    rw [h2', h3] <;> rfl
  show (if (PySem.W.subIn K (.ref S) (.type "BaseException") == some true) = true then (if ((PySem.W.clsIn K S).isSome && PySem.W.typeIn K (.ref S) == some (.type "type")) = true then PySem.W.subIn K (.ref S) (.ref S) else none) else none) = some true
  rw [if_pos e1, if_pos e2]
  exact h4
end Ev
namespace Ev
open PySem PySem.Spec
def rng1 (xs : List PyData) (R : Row) : Res (List PyData) := if xs.length = 1 then ofO (rangeD xs) R else .stuck
def rng2 (xs : List PyData) (R : Row) : Res (List PyData) := if xs.length = 2 then ofO (rangeD xs) R else .stuck
def rng3 (xs : List PyData) (R : Row) : Res (List PyData) := if xs.length = 3 then ofO (rangeD xs) R else .stuck
def lRange1 (l : DenL) : DenL := fun ρ R => (l ρ R).bind rng1
def lRange2 (l : DenL) : DenL := fun ρ R => (l ρ R).bind rng2
def lRange3 (l : DenL) : DenL := fun ρ R => (l ρ R).bind rng3
end Ev

/-! Ev: evaluation by rewriting -/
namespace Ev
open PySem PySem.Spec
abbrev FX : Str → Row → Prop := fun _ _ => False
section
variable {α β : Type} {ok : α → Row → Prop} {okb : β → Row → Prop} {ex : Str → Row → Prop} {R : Row}
theorem e_bind (r : Res α) (f : α → Row → Res β) : Ends (r.bind f) okb ex = Ends r (fun a R => Ends (f a R) okb ex) ex := by cases r <;> rfl
@[simp] theorem e_ok (a : α) : Ends (Res.ok a R) ok ex = ok a R := eqr rfl
@[simp] theorem e_exc (nm : Str) : Ends (Res.exc nm R : Res α) ok ex = ex nm R := eqr rfl
@[simp] theorem e_stuck : Ends (Res.stuck : Res α) ok ex = False := eqr rfl
theorem Ends.to_bind {r : Res α} {f : α → Row → Res β} (h : Ends r (fun a R => Ends (f a R) okb ex) ex) : Ends (r.bind f) okb ex := by rw [e_bind]; exact h
theorem Ends.step {r : Res α} {f : α → Row → Res β} {P : α → Row → Prop} (h : Ends r P FX) (k : ∀ a R, P a R → Ends (f a R) okb ex) : Ends (r.bind f) okb ex := by
  rw [e_bind]
  exact h.mono k fun _ _ z => z.elim
@[simp] theorem ofO_none : ofO (none : Option α) R = .stuck := eqr rfl
@[simp] theorem bind_ite (c : Prop) [Decidable c] (x y : Res α) (f : α → Row → Res β) : (if c then x else y).bind f = if c then x.bind f else y.bind f := by split <;> rfl
@[simp] theorem ofO_ite (c : Prop) [Decidable c] (x y : Option α) : ofO (if c then x else y) R = if c then ofO x R else ofO y R := by split <;> rfl
@[simp] theorem ofO_map (o : Option α) (f : α → β) : ofO (o.map f) R = (ofO o R).bind fun a R => .ok (f a) R := by cases o <;> rfl
@[simp] theorem bind_bind {γ : Type} (r : Res α) (f : α → Row → Res β) (g : β → Row → Res γ) : (r.bind f).bind g = r.bind fun a R => (f a R).bind g := by cases r <;> rfl
theorem e_ite (c : Prop) [Decidable c] (x y : Res α) : Ends (if c then x else y) ok ex = if c then Ends x ok ex else Ends y ok ex := by split <;> rfl
end
section
variable {ρ : Env} {R : Row} {d d1 d2 d3 : Den} {b b1 b2 : DenB} {l l1 l2 : DenL} {s s1 s2 : DenS} {i k : Nat} {x y : PyData} {f g : PyData → PyData → Option PyData} {u : PyData → Option PyData}
@[simp] theorem dVar_ap : dVar i ρ R = ofO (ρ[i]?.join) R := eqr rfl
@[simp] theorem dC_ap : dC x ρ R = .ok x R := eqr rfl
@[simp] theorem dBin_ap : dBin f d1 d2 ρ R = (d1 ρ R).bind fun x R1 => (d2 ρ R1).bind fun y R2 => ofO (f x y) R2 := eqr rfl
@[simp] theorem dUn_ap : dUn u d ρ R = (d ρ R).bind fun x R1 => ofO (u x) R1 := eqr rfl
@[simp] theorem dTB_ap : dTB d ρ R = (d ρ R).bind fun x R1 => ofO (boolD x) R1 := eqr rfl
@[simp] theorem dChain_ap : dChain f g d1 d2 d3 ρ R = (d1 ρ R).bind fun x R1 => (d2 ρ R1).bind fun y R2 => (ofO ((f x y).bind boolD) R2).bind fun b R3 => if b then (d3 ρ R3).bind fun z R4 => ofO (g y z) R4 else .ok (.bool false) R3 := eqr rfl
@[simp] theorem dAnd_ap : dAnd d1 d2 ρ R = (d1 ρ R).bind fun x R1 => (ofO (boolD x) R1).bind fun b R2 => if b then d2 ρ R2 else .ok (.bool false) R2 := eqr rfl
@[simp] theorem dOr_ap : dOr d1 d2 ρ R = (d1 ρ R).bind fun x R1 => (ofO (boolD x) R1).bind fun b R2 => if b then .ok (.bool true) R2 else d2 ρ R2 := eqr rfl
@[simp] theorem dNot_ap : dNot d ρ R = (d ρ R).bind fun x R1 => (ofO (boolD x) R1).bind fun b R2 => .ok (.bool !b) R2 := eqr rfl
@[simp] theorem bAnd_ap : bAnd b1 b2 ρ R = (b1 ρ R).bind fun b R2 => if b then b2 ρ R2 else .ok false R2 := eqr rfl
@[simp] theorem bOr_ap : bOr b1 b2 ρ R = (b1 ρ R).bind fun b R2 => if b then .ok true R2 else b2 ρ R2 := eqr rfl
@[simp] theorem bNot_ap : bNot b ρ R = (b ρ R).bind fun b R2 => .ok (!b) R2 := eqr rfl
@[simp] theorem bYes_ap : bYes ρ R = .ok true R := eqr rfl
@[simp] theorem dIf_ap : dIf b d1 d2 ρ R = (b ρ R).bind fun c R1 => if c then d1 ρ R1 else d2 ρ R1 := eqr rfl
@[simp] theorem lNil_ap : lNil ρ R = .ok [] R := eqr rfl
@[simp] theorem lCons_ap : lCons d l ρ R = (d ρ R).bind fun x R1 => (l ρ R1).bind fun xs R2 => .ok (x :: xs) R2 := eqr rfl
@[simp] theorem lApp_ap : lApp l1 l2 ρ R = (l1 ρ R).bind fun xs R1 => (l2 ρ R1).bind fun ys R2 => .ok (xs ++ ys) R2 := eqr rfl
theorem small_sz {n : Nat} (h : n ≤ 1000000) : n ≤ sizeLine := by rw [PySem.sizeLine_eq]; omega
@[simp] theorem dTup_ap : dTup l ρ R = (l ρ R).bind fun xs R1 => if xs.length ≤ sizeLine then .ok (.tuple xs) R1 else .stuck := eqr rfl
@[simp] theorem nLst_ap : nLst l ρ R = (l ρ R).bind fun xs R1 => if xs.length ≤ sizeLine then .ok xs R1 else .stuck := eqr rfl
@[simp] theorem dLst_ap : dLst l ρ R = (l ρ R).bind fun xs R1 => .ok (.list xs) R1 := eqr rfl
@[simp] theorem dCallF_ap {F : List PyData → Row → Res PyData} : dCallF F l ρ R = (l ρ R).bind F := eqr rfl
@[simp] theorem dBlt_ap {F : List PyData → Option PyData} : dBlt F l ρ R = (l ρ R).bind fun xs R1 => ofO (F xs) R1 := eqr rfl
@[simp] theorem nBlt_ap {F : List PyData → Option (List PyData)} : nBlt F l ρ R = (l ρ R).bind fun xs R1 => ofO (F xs) R1 := eqr rfl
@[simp] theorem nBin_ap {F : PyData → PyData → Option (List PyData)} : nBin F d1 d2 ρ R = (d1 ρ R).bind fun x R1 => (d2 ρ R1).bind fun y R2 => ofO (F x y) R2 := eqr rfl
@[simp] theorem oNone_ap : oNone ρ R = .ok none R := eqr rfl
@[simp] theorem oSome_ap : oSome d ρ R = (d ρ R).bind fun x R1 => (ofO (intQ x) R1).bind fun i R2 => .ok (some i) R2 := by
  unfold oSome
  simp
@[simp] theorem intQ_i {j : Int} : intQ (.int j) = some j := eqr rfl
@[simp] theorem dSlice_ap {l h : Env → Row → Res (Option Int)} : dSlice d l h ρ R = (d ρ R).bind fun x R1 => (l ρ R1).bind fun lo R2 => (h ρ R2).bind fun hi R3 => ofO (sliceD x lo hi) R3 := eqr rfl
@[simp] theorem nSlice_ap {l h : Env → Row → Res (Option Int)} : nSlice d l h ρ R = (d ρ R).bind fun x R1 => (l ρ R1).bind fun lo R2 => (h ρ R2).bind fun hi R3 => ofO (sliceN x lo hi) R3 := eqr rfl
@[simp] theorem lSeq_ap : lSeq d ρ R = (d ρ R).bind fun x R1 => ofO (seqD x) R1 := eqr rfl
@[simp] theorem seqD_l {xs : List PyData} : seqD (.list xs) = some xs := eqr rfl
@[simp] theorem seqD_t {xs : List PyData} : seqD (.tuple xs) = some xs := eqr rfl
@[simp] theorem lZip_ap : lZip l ρ R = (l ρ R).bind fun ds R1 => ofO (zipD ds) R1 := eqr rfl
@[simp] theorem zipD_l {xs ys : List PyData} : zipD [.list xs, .list ys] = some (pairD xs ys) := eqr rfl
@[simp] theorem zipD_t {xs ys : List PyData} : zipD [.tuple xs, .tuple ys] = some (pairD xs ys) := eqr rfl
@[simp] theorem dDisp1_ap : dDisp1 d1 d2 ρ R = (d1 ρ R).bind fun k R1 => (d2 ρ R1).bind fun v R2 => if (toKey k).isSome then .ok (.dict [(k, v)]) R2 else .stuck := eqr rfl
@[simp] theorem lRange1_ap : lRange1 l ρ R = (l ρ R).bind rng1 := eqr rfl
@[simp] theorem lRange2_ap : lRange2 l ρ R = (l ρ R).bind rng2 := eqr rfl
@[simp] theorem lRange3_ap : lRange3 l ρ R = (l ρ R).bind rng3 := eqr rfl
theorem range_1 {j : Int} (h : in62 j) : rangeD [.int j] = some (rangeL 0 j.toNat) := if_pos h
theorem range_2 {i j : Int} (h : in62 i) (h' : in62 j) : rangeD [.int i, .int j] = some (rangeL i (j - i).toNat) := if_pos ⟨h, h'⟩
theorem range_3 {i j : Int} (h : in62 i) (h' : in62 j) : rangeD [.int i, .int j, .int (-1)] = some (rangeC i (-1) (i - j).toNat) := if_pos ⟨h, h'⟩
theorem rng1_i {j : Int} (h : in62 j) : rng1 [.int j] R = .ok (rangeL 0 j.toNat) R := by
  show ofO (rangeD [.int j]) R = _
  rw [range_1 h]
  rfl
theorem rng2_i {i j : Int} (h : in62 i) (h' : in62 j) : rng2 [.int i, .int j] R = .ok (rangeL i (j - i).toNat) R := by
  show ofO (rangeD [.int i, .int j]) R = _
  rw [range_2 h h']
  rfl
theorem rng3_i {i j : Int} (h : in62 i) (h' : in62 j) : rng3 [.int i, .int j, .int (-1)] R = .ok (rangeC i (-1) (i - j).toNat) R := by
  show ofO (rangeD [.int i, .int j, .int (-1)]) R = _
  rw [range_3 h h']
  rfl
theorem in62_of {i : Int} (h : -1000000000 ≤ i) (h' : i ≤ 1000000000) : in62 i := ⟨by omega, by omega⟩
theorem rng1_s {j : Int} (h : -1000000000 ≤ j) (h' : j ≤ 1000000000) : rng1 [.int j] R = .ok (rangeL 0 j.toNat) R := rng1_i (in62_of h h')
theorem rng2_s {i j : Int} (h : -1000000000 ≤ i ∧ i ≤ 1000000000) (h' : -1000000000 ≤ j ∧ j ≤ 1000000000) : rng2 [.int i, .int j] R = .ok (rangeL i (j - i).toNat) R := rng2_i (in62_of h.1 h.2) (in62_of h'.1 h'.2)
-- the row
@[simp] theorem rowAt0 {ρ : Env} : rowAt (some rowD :: ρ) 0 = some () := eqr rfl
@[simp] theorem rowAt1 {ρ : Env} {a : Option PyData} : rowAt (a :: some rowD :: ρ) 1 = some () := eqr rfl
@[simp] theorem get1 : R.get 1 = some R.i := eqr rfl
@[simp] theorem get2 : R.get 2 = some R.m := eqr rfl
@[simp] theorem get3 : R.get 3 = some R.c := eqr rfl
@[simp] theorem put1 {z : Int} : R.put 1 z = some { R with i := z } := eqr rfl
@[simp] theorem put2 {z : Int} : R.put 2 z = some { R with m := z } := eqr rfl
@[simp] theorem put3 {z : Int} : R.put 3 z = some { R with c := z } := eqr rfl
@[simp] theorem dRow_ap : dRow i k ρ R = (ofO (rowAt ρ i) R).bind fun _ R => (ofO (R.get k) R).bind fun z R => .ok (.int z) R := eqr rfl
@[simp] theorem dRowLen_ap : dRowLen i ρ R = (ofO (rowAt ρ i) R).bind fun _ R => .ok (.int R.ns.length) R := eqr rfl
def cellR (x : PyData) (R : Row) : Res PyData := match x with | .int k => (ofO (L2.atI R.ns k) R).bind fun z R2 => .ok (.int z) R2 | _ => .stuck
@[simp] theorem dRowCell_ap : dRowCell i d ρ R = (ofO (rowAt ρ i) R).bind fun _ R => (d ρ R).bind cellR := eqr rfl
@[simp] theorem cellR_i {k : Int} : cellR (.int k) R = (ofO (L2.atI R.ns k) R).bind fun z R2 => .ok (.int z) R2 := eqr rfl
def putR (ρ : Env) (k : Nat) (x : PyData) (R : Row) : Res Fl := match x with | .int z => (ofO (R.put k z) R).bind fun R2 _ => .ok (.nx ρ) R2 | _ => .stuck
@[simp] theorem sRow_ap : sRow i k d ρ R = (d ρ R).bind fun x R1 => (ofO (rowAt ρ i) R1).bind fun _ R1 => putR ρ k x R1 := eqr rfl
@[simp] theorem putR_i {z : Int} : putR ρ k (.int z) R = (ofO (R.put k z) R).bind fun R2 _ => .ok (.nx ρ) R2 := eqr rfl
-- statements
@[simp] theorem sNext_ap : sNext ρ R = .ok (.nx ρ) R := eqr rfl
@[simp] theorem sSeq_ap : sSeq s1 s2 ρ R = (s1 ρ R).bind (sThen s2) := eqr rfl
@[simp] theorem sThen_nx {F : Env → Row → Res Fl} : sThen F (.nx ρ) R = F ρ R := eqr rfl
@[simp] theorem sThen_rt {F : Env → Row → Res Fl} : sThen F (.rt x) R = .ok (.rt x) R := eqr rfl
@[simp] theorem sIf_ap : sIf b s1 s2 ρ R = (b ρ R).bind fun c R1 => if c then s1 ρ R1 else s2 ρ R1 := eqr rfl
@[simp] theorem sRet_ap : sRet d ρ R = (d ρ R).bind fun x R1 => .ok (.rt x) R1 := eqr rfl
@[simp] theorem sExpr_ap : sExpr d ρ R = (d ρ R).bind fun _ R1 => .ok (.nx ρ) R1 := eqr rfl
def raiseR (x : PyData) (R : Row) : Res Fl := match x with | .str nm => .exc nm R | _ => .stuck
@[simp] theorem sRaise_ap : sRaise d ρ R = (d ρ R).bind raiseR := eqr rfl
@[simp] theorem raiseR_s {nm : Str} : raiseR (.str nm) R = .exc nm R := eqr rfl
def asgR (t : Tgt) (ρ : Env) (x : PyData) (R : Row) : Res Fl := match t x ρ with | some ρ' => .ok (.nx ρ') R | none => .stuck
@[simp] theorem sAsgM_ap {ks : List Nat} {t : Tgt} : sAsgM ks t d ρ R = (d (wipeE ρ ks) R).bind (asgR t ρ) := eqr rfl
@[simp] theorem sAsg_ap {t : Tgt} : sAsg t d ρ R = (d ρ R).bind fun x R1 => if pureD x then asgR t ρ x R1 else .stuck := eqr rfl
@[simp] theorem asgR_g : asgR (gSet i) ρ x R = .ok (.nx (ρ.set i (some x))) R := eqr rfl
theorem asgR_some {t : Tgt} {ρ' : Env} (h : t x ρ = some ρ') : asgR t ρ x R = .ok (.nx ρ') R := by unfold asgR; rw [h]
@[simp] theorem wipe_nil : wipeE ρ [] = ρ := eqr rfl
@[simp] theorem wipe_cons {v : Nat} {vs : List Nat} : wipeE ρ (v :: vs) = (wipeE ρ vs).set v none := eqr rfl
@[simp] theorem gSet_ap : gSet i x ρ = some (ρ.set i (some x)) := eqr rfl
@[simp] theorem gTup_t {n : Nat} {t : Tgts} {xs : List PyData} : gTupD n t (.tuple xs) ρ = if xs.length = n then t xs ρ else none := eqr rfl
@[simp] theorem gTup_l {n : Nat} {t : Tgts} {xs : List PyData} : gTupD n t (.list xs) ρ = if xs.length = n then t xs ρ else none := eqr rfl
@[simp] theorem gsCons_ap {t : Tgt} {ts : Tgts} {xs : List PyData} : gsCons t ts (x :: xs) ρ = (t x ρ).bind fun ρ1 => ts xs ρ1 := eqr rfl
@[simp] theorem gsNil_ap : gsNil [] ρ = some ρ := eqr rfl
@[simp] theorem gMore_ap {us : List Nat} {t : Tgt} : gMore us t x ρ = t x (wipeE ρ us) := eqr rfl
@[simp] theorem sNew_ap : sNew i d ρ R = (d ρ R).bind fun x R1 => if pureIn x && decide (i < ρ.length) then .ok (.nx (ρ.set i (some x))) R1 else .stuck := eqr rfl
@[simp] theorem sNewM_ap {ks : List Nat} : sNewM ks i d ρ R = (d (wipeE ρ ks) R).bind fun x R1 => if decide (i < ρ.length) then .ok (.nx (ρ.set i (some x))) R1 else .stuck := eqr rfl
@[simp] theorem sApp_ap : sApp i d ρ R = (ofO (lstAt ρ i) R).bind fun ds R0 => (d ρ R0).bind fun v R1 => if pureD v && decide (ds.length < sizeLine) then .ok (.nx (ρ.set i (some (.list (ds ++ [v]))))) R1 else .stuck := eqr rfl
@[simp] theorem sSetI_ap : sSetI i d1 d2 ρ R = (d2 ρ R).bind fun v R1 => (ofO (valAt ρ i) R1).bind fun x R2 => (d1 ρ R2).bind fun k R3 => if pureD v then (ofO (setD x k v) R3).bind fun d R4 => .ok (.nx (ρ.set i (some d))) R4 else .stuck := eqr rfl
@[simp] theorem sAug_ap {F : Int → Int → Int} : sAug i F d ρ R = (ofO (valAt ρ i) R).bind fun x R1 => (d ρ R1).bind fun y R2 => (ofO (ipD F x y) R2).bind fun z R3 => .ok (.nx (ρ.set i (some z))) R3 := eqr rfl
@[simp] theorem valAt_ap : valAt ρ i = ρ[i]?.join := eqr rfl
def lstO (o : Option PyData) : Option (List PyData) := match o with | some (.list ds) => some ds | _ => none
@[simp] theorem lstAt_ap : lstAt ρ i = lstO (ρ[i]?.join) := eqr rfl
@[simp] theorem lstO_l {xs : List PyData} : lstO (some (.list xs)) = some xs := eqr rfl
@[simp] theorem sForM_ap {ks : List Nat} {t : Tgt} : sForM ks l t s ρ R = (l (wipeE ρ ks) R).bind fun ds R1 => forM (turnF t s) ds ρ R1 := eqr rfl
@[simp] theorem sFor_ap {t : Tgt} : sFor l t s ρ R = (l ρ R).bind fun ds R1 => forM (turnF t s) ds ρ R1 := eqr rfl
@[simp] theorem nComp_ap {t : Tgt} {vs : List Nat} : nComp l t vs b d ρ R = (l ρ R).bind fun ds R1 => (compM (turnC t vs b d ρ) ds R1).bind fun xs R2 => if xs.length ≤ sizeLine then .ok xs R2 else .stuck := eqr rfl
@[simp] theorem nComp2_ap {t t1 : Tgt} {vs vs1 : List Nat} : nComp2 l t vs b l1 t1 vs1 b1 d ρ R = (l ρ R).bind fun ds R1 => (compM (turnC2 t vs b l1 t1 vs1 b1 d ρ) ds R1).bind fun xs R2 => if xs.length ≤ sizeLine then .ok xs R2 else .stuck := eqr rfl
@[simp] theorem forM_nil {F : PyData → Env → Row → Res Fl} : forM F [] ρ R = .ok (.nx ρ) R := eqr rfl
-- operators
@[simp] theorem boolD_b {c : Bool} : boolD (.bool c) = some c := eqr rfl
@[simp] theorem addD_i {a b : Int} : addD (.int a) (.int b) = some (.int (a + b)) := eqr rfl
@[simp] theorem addD_t {xs ys : List PyData} : addD (.tuple xs) (.tuple ys) = if xs.length + ys.length ≤ sizeLine then some (.tuple (xs ++ ys)) else none := eqr rfl
@[simp] theorem subD_i {a b : Int} : subD (.int a) (.int b) = some (.int (a - b)) := eqr rfl
@[simp] theorem mulD_i {a b : Int} : mulD (.int a) (.int b) = if near a || near b then some (.int (a * b)) else none := eqr rfl
@[simp] theorem mulD_t {xs : List PyData} {k : Int} : mulD (.tuple xs) (.int k) = if xs ≠ [] ∧ 1 ≤ k ∧ k ≤ 1000 ∧ xs.length ≤ 1000 then some (.tuple (List.replicate k.toNat xs).flatten) else none := eqr rfl
@[simp] theorem fdivD_i {a b : Int} : fdivD (.int a) (.int b) = if 0 < b ∧ b < 1073741824 then some (.int (a / b)) else none := eqr rfl
@[simp] theorem modD_i {a b : Int} : modD (.int a) (.int b) = if 0 < b then some (.int (a % b)) else none := eqr rfl
@[simp] theorem powD_i {a b : Int} : powD (.int a) (.int b) = if 0 ≤ b ∧ b ≤ 1000000 ∧ a.natAbs < 2 ^ 64 then some (.int (a ^ b.toNat)) else none := eqr rfl
@[simp] theorem cmpD_i {F : Int → Int → Bool} {a b : Int} : cmpD F (.int a) (.int b) = some (.bool (F a b)) := eqr rfl
@[simp] theorem negD_i {a : Int} : negD (.int a) = some (.int (-a)) := eqr rfl
@[simp] theorem intD_i {a : Int} : intD [.int a] = some (.int a) := eqr rfl
@[simp] theorem lenD_l {xs : List PyData} : lenD [.list xs] = some (.int xs.length) := eqr rfl
@[simp] theorem lenD_t {xs : List PyData} : lenD [.tuple xs] = some (.int xs.length) := eqr rfl
@[simp] theorem max2_i {a b : Int} : max2D [.int a, .int b] = some (.int (if b > a then b else a)) := eqr rfl
@[simp] theorem min2_i {a b : Int} : min2D [.int a, .int b] = some (.int (if b < a then b else a)) := eqr rfl
theorem sumD_l {xs : List PyData} : sumD [.list xs] = if xs.all isInt then some (.int (xs.map intOf).sum) else none := eqr rfl
theorem allD_l {xs : List PyData} : allD [.list xs] = if xs.all isBool then some (.bool (xs.all boolOf)) else none := eqr rfl
theorem anyD_l {xs : List PyData} : anyD [.list xs] = if xs.all isBool then some (.bool (xs.any boolOf)) else none := eqr rfl
@[simp] theorem tupleD_l {xs : List PyData} : tupleD [.list xs] = some (.tuple xs) := eqr rfl
@[simp] theorem tupleD_t {xs : List PyData} : tupleD [.tuple xs] = some (.tuple xs) := eqr rfl
@[simp] theorem listD_l {xs : List PyData} : listD [.list xs] = some xs := eqr rfl
@[simp] theorem listD_t {xs : List PyData} : listD [.tuple xs] = some xs := eqr rfl
@[simp] theorem catN_l {xs ys : List PyData} : catN (.list xs) (.list ys) = if xs.length + ys.length ≤ sizeLine then some (xs ++ ys) else none := eqr rfl
@[simp] theorem repN_l {xs : List PyData} {k : Int} : repN (.list xs) (.int k) = if -(2 ^ 63) ≤ k ∧ k < 2 ^ 63 ∧ xs.length * k.toNat ≤ sizeLine then some (List.replicate k.toNat xs).flatten else none := eqr rfl
@[simp] theorem idxD_l {xs : List PyData} {j : Int} : idxD (.list xs) (.int j) = L2.atI xs j := eqr rfl
@[simp] theorem idxD_t {xs : List PyData} {j : Int} : idxD (.tuple xs) (.int j) = L2.atI xs j := eqr rfl
@[simp] theorem idxD_d {ps : List (PyData × PyData)} : idxD (.dict ps) x = if kinOk ps x then dget ps x else none := by cases x <;> rfl
@[simp] theorem ipD_i {F : Int → Int → Int} {a b : Int} : ipD F (.int a) (.int b) = some (.int (F a b)) := eqr rfl
@[simp] theorem setD_l {xs : List PyData} {j : Int} : setD (.list xs) (.int j) x = (L2.ixN xs.length j).map fun n => .list (xs.set n x) := eqr rfl
@[simp] theorem setD_d {ps : List (PyData × PyData)} : setD (.dict ps) k' x = if kinOk ps k' && decide (ps.length < sizeLine) then some (.dict (dput ps k' x)) else none := by cases k' <;> rfl
@[simp] theorem isBD_b {a c : Bool} : isBD (.bool a) (.bool c) = some (.bool (decide (a = c))) := eqr rfl
@[simp] theorem notBD_b {a c : Bool} : notBD (.bool a) (.bool c) = some (.bool (!decide (a = c))) := eqr rfl
@[simp] theorem isND_n : isND x .none = some (.bool (noneD x)) := by cases x <;> rfl
@[simp] theorem notND_n : notND x .none = some (.bool (!noneD x)) := by cases x <;> rfl
@[simp] theorem sliceD_t {xs : List PyData} {lo hi : Option Int} : sliceD (.tuple xs) lo hi = some (.tuple (cutL xs lo hi)) := eqr rfl
@[simp] theorem sliceN_l {xs : List PyData} {lo hi : Option Int} : sliceN (.list xs) lo hi = some (cutL xs lo hi) := eqr rfl
@[simp] theorem isBool_b {c : Bool} : isBool (.bool c) = true := eqr rfl
@[simp] theorem boolOf_b {c : Bool} : boolOf (.bool c) = c := eqr rfl
@[simp] theorem isInt_i {c : Int} : isInt (.int c) = true := eqr rfl
@[simp] theorem intOf_i {c : Int} : intOf (.int c) = c := eqr rfl
@[simp] theorem sumD_map {α : Type} {F : α → Int} {xs : List α} : sumD [.list (xs.map fun x => PyData.int (F x))] = some (.int (xs.map F).sum) := by
  rw [sumD_l, if_pos (by simp), List.map_map]
  rfl
@[simp] theorem allD_map {α : Type} {F : α → Bool} {xs : List α} : allD [.list (xs.map fun x => PyData.bool (F x))] = some (.bool (xs.all F)) := by
  rw [allD_l, if_pos (by simp), List.all_map]
  rfl
@[simp] theorem anyD_map {α : Type} {F : α → Bool} {xs : List α} : anyD [.list (xs.map fun x => PyData.bool (F x))] = some (.bool (xs.any F)) := by
  rw [anyD_l, if_pos (by simp), List.any_map]
  rfl
theorem callF_def {j : Nat} {ds : List PyData} : callF j s ds R = (s (ds.map some ++ List.replicate j none) R).bind fun fl R1 => match fl with | .nx _ => .ok .none R1 | .rt d => .ok d R1 | _ => .stuck := rfl
end
/-- the row as the law keeps it -/
def RowOk (R : Row) : Prop := 0 ≤ R.i
def TakenP (F : List PyData → Row → Res PyData) : Prop := ∀ (R : Row) (n : Int), RowOk R → 0 < n → n < 1073741824 → Ends (F [rowD, .int n] R) (fun d R' => ∃ v, d = .int v ∧ 0 ≤ v ∧ v < n ∧ RowOk R') FX
end Ev

namespace Sh
open PySem PySem.Spec Ev
def den__law_taken : DenS :=
    (sSeq (sIf (dTB (dBin (cmpD fun i j => decide (j < i)) (dRow 0 3) (dC (.int 0))))
      (sSeq (sAsgM [] (gSet 3) (dBin modD (dBlt intD (lCons (dRow 0 3) lNil)) (dVar 1)))
    (sSeq (sRow 0 3 (dBin fdivD (dRow 0 3) (dVar 1)))
    (sRet (dVar 3))))
      sNext)
    (sSeq (sRow 0 1 (dBin addD (dRow 0 1) (dC (.int 1))))
    (sSeq (sIf (dTB (dBin (cmpD fun i j => decide (j < i)) (dRow 0 1) (dRowLen 0)))
      (sSeq (sRow 0 2 (dBin modD (dBlt intD (lCons (dBin addD (dBin mulD (dRow 0 2) (dC (.int 48271))) (dC (.int 11))) lNil)) (dC (.int 2147483647))))
    (sRet (dBin modD (dBlt intD (lCons (dBin fdivD (dRow 0 2) (dC (.int 7))) lNil)) (dVar 1))))
      sNext)
    (sSeq (sAsgM [] (gSet 2) (dRowCell 0 (dBin subD (dRow 0 1) (dC (.int 1)))))
    (sSeq (sRow 0 2 (dBin modD (dBlt intD (lCons (dBin addD (dBin addD (dBin mulD (dRow 0 2) (dC (.int 48271))) (dBlt intD (lCons (dVar 2) lNil))) (dC (.int 11))) lNil)) (dC (.int 2147483647))))
    (sSeq (sIf (dTB (dBin (cmpD fun i j => decide (j ≤ i)) (dVar 2) (dBin powD (dC (.int 10)) (dC (.int 18)))))
      (sRow 0 3 (dBin fdivD (dBlt intD (lCons (dBin modD (dBlt intD (lCons (dVar 2) lNil)) (dBin powD (dC (.int 10)) (dC (.int 90)))) lNil)) (dVar 1)))
      sNext)
    (sRet (dBin modD (dBlt intD (lCons (dVar 2) lNil)) (dVar 1)))))))))
def F__law_taken : List PyData → Ev.Row → Res PyData := callF 2 den__law_taken
def den_require : DenS :=
    (sIf (bNot (dTB (dVar 0)))
      (sRaise (dVar 1))
      sNext)
def F_require : List PyData → Ev.Row → Res PyData := callF 0 den_require
def den_is_whole : DenS :=
    (sRet (dAnd (dUn (isiD "int") (dVar 0)) (dAnd (dNot (dUn (isiD "bool") (dVar 0))) (dChain (cmpD fun i j => decide (i ≤ j)) (cmpD fun i j => decide (i ≤ j)) (dVar 1) (dVar 0) (dVar 2)))))
def F_is_whole : List PyData → Ev.Row → Res PyData := callF 0 den_is_whole
def den_is_row : DenS :=
    (sRet (dAnd (dUn (isiD "tuple") (dVar 0)) (dChain (cmpD fun i j => decide (i ≤ j)) (cmpD fun i j => decide (i ≤ j)) (dVar 1) (dBlt lenD (lCons (dVar 0) lNil)) (dVar 2))))
def F_is_row : List PyData → Ev.Row → Res PyData := callF 0 den_is_row
def den_are_wholes : DenS :=
    (sRet (dAnd (dCallF F_is_row (lCons (dVar 0) (lCons (dVar 1) (lCons (dVar 1) lNil)))) (dBlt allD (lCons (dLst (nComp (lSeq (dVar 0)) (gSet 4) [4] bYes (dCallF F_is_whole (lCons (dVar 4) (lCons (dVar 2) (lCons (dVar 3) lNil)))))) lNil))))
def F_are_wholes : List PyData → Ev.Row → Res PyData := callF 1 den_are_wholes
def den__law_pick : DenS :=
    (sRet (dBin idxD (dVar 1) (dCallF F__law_taken (lCons (dVar 0) (lCons (dBlt lenD (lCons (dVar 1) lNil)) lNil)))))
def F__law_pick : List PyData → Ev.Row → Res PyData := callF 0 den__law_pick
def den__law_alike (F__law_alike : List PyData → Ev.Row → Res PyData) : DenS :=
    (sSeq (sIf (dTB (dUn (isiD "tuple") (dVar 1)))
      (sSeq (sIf (bOr (bNot (dTB (dUn (isiD "tuple") (dVar 0)))) (dTB (dBin neD (dBlt lenD (lCons (dVar 0) lNil)) (dBlt lenD (lCons (dVar 1) lNil)))))
      (sRet (dC (.bool false)))
      sNext)
    (sRet (dBin eqD (dLst (nComp (lRange1 (lCons (dBlt lenD (lCons (dVar 1) lNil)) lNil)) (gSet 2) [2] (bNot (dTB (dCallF F__law_alike (lCons (dBin idxD (dVar 0) (dVar 2)) (lCons (dBin idxD (dVar 1) (dVar 2)) lNil))))) (dVar 2))) (dLst (nLst lNil)))))
      sNext)
    (sSeq (sIf (bOr (dTB (dBin isND (dVar 1) (dC .none))) (dTB (dUn (isiD "str") (dVar 1))))
      (sRet (dAnd (dBin eqD (dVar 0) (dVar 1)) (dBin eqD (dUn (isiD "str") (dVar 0)) (dUn (isiD "str") (dVar 1)))))
      sNext)
    (sRet (dAnd (dUn (isiD "int") (dVar 0)) (dAnd (dBin eqD (dUn (isiD "bool") (dVar 0)) (dUn (isiD "bool") (dVar 1))) (dBin eqD (dVar 0) (dVar 1)))))))
def F__law_alike : Nat → List PyData → Ev.Row → Res PyData
  | 0 => fun _ _ => .stuck
  | n + 1 => callF 1 (den__law_alike (F__law_alike n))
theorem atI_lt {α : Type} {xs : List α} {i : Int} (h0 : 0 ≤ i) (h1 : i < xs.length) : ∃ x, L2.atI xs i = some x ∧ x ∈ xs ∧ xs[i.toNat]? = some x := by
  have h : i.toNat < xs.length := by omega
  refine ⟨xs[i.toNat], ?_, List.getElem_mem h, List.getElem?_eq_getElem h⟩
  unfold L2.atI L2.ixN
  rw [if_pos h0, if_pos h1]
  exact List.getElem?_eq_getElem h
theorem taken_spec : TakenP F__law_taken := by
  intro R n hR h0 h1
  obtain ⟨ns, i, m, c⟩ := R
  have hi : 0 ≤ i := hR
  have hn : near 48271 = true := rfl
  have nz : n ≠ 0 := by omega
  unfold F__law_taken den__law_taken
  simp [callF_def, h0, h1, hn, e_ite]
  split
  · exact ⟨Int.emod_nonneg _ nz, Int.emod_lt_of_pos _ h0, hi⟩
  · split
    · exact ⟨Int.emod_nonneg _ nz, Int.emod_lt_of_pos _ h0, by show 0 ≤ i + 1; omega⟩
    · rename_i hlt
      obtain ⟨z, e, _, _⟩ := atI_lt (xs := ns) hi (by omega)
      rw [e]
      simp [hn, e_ite, h0, h1]
      split
      · exact ⟨Int.emod_nonneg _ nz, Int.emod_lt_of_pos _ h0, by show 0 ≤ i + 1; omega⟩
      · exact ⟨Int.emod_nonneg _ nz, Int.emod_lt_of_pos _ h0, by show 0 ≤ i + 1; omega⟩
theorem pick_spec {R : Ev.Row} {xs : List PyData} (hR : RowOk R) (h0 : xs ≠ []) (h1 : xs.length < 1073741824) : Ends (F__law_pick [rowD, .list xs] R) (fun d R' => d ∈ xs ∧ RowOk R') FX := by
  have hl : 0 < xs.length := List.length_pos_iff.mpr h0
  unfold F__law_pick den__law_pick
  simp [callF_def]
  refine Ends.step (taken_spec R xs.length hR (by omega) (by omega)) fun d R' ⟨v, e, a, b, c⟩ => ?_
  subst e
  obtain ⟨x, e, m, _⟩ := atI_lt a b
  simp [e, m, c]
/-- a text whose signs are signs -/
def isWholeD (d : PyData) (a b : Int) : Bool := match d with
  | .int i => decide (a ≤ i) && decide (i ≤ b)
  | _ => false
def isRowD (d : PyData) (a b : Int) : Bool := match d with
  | .tuple xs => decide (a ≤ (xs.length : Int)) && decide ((xs.length : Int) ≤ b)
  | _ => false
def areWholesD (d : PyData) (n a b : Int) : Bool := match d with
  | .tuple xs => decide ((xs.length : Int) = n) && xs.all fun x => isWholeD x a b
  | _ => false
theorem is_whole_eq {R : Ev.Row} {d : PyData} {a b : Int} (h : dataD d = true) : F_is_whole [d, .int a, .int b] R = .ok (.bool (isWholeD d a b)) R := by
  unfold F_is_whole den_is_whole
  cases d with
  | dict ps => simp [dataD] at h
  | int i =>
    by_cases h1 : a ≤ i <;> simp [callF_def, isiD, isTy, dataD, isWholeD, h1, PyData.isInt, PyData.isBool]
  | bool i => simp [callF_def, isiD, isTy, dataD, isWholeD, PyData.isInt, PyData.isBool]
  | _ => simp_all [callF_def, isiD, isTy, dataD, isWholeD, PyData.isInt, PyData.isBool]
theorem is_row_eq {R : Ev.Row} {d : PyData} {a b : Int} (h : dataD d = true) : F_is_row [d, .int a, .int b] R = .ok (.bool (isRowD d a b)) R := by
  unfold F_is_row den_is_row
  cases d with
  | dict ps => simp [dataD] at h
  | tuple xs =>
    have h' : dataA xs = true := h
    simp [callF_def, isiD, isTy, dataD, isRowD, PyData.isTuple, h']
    split <;> (simp_all <;> try omega)
  | _ => simp_all [callF_def, isiD, isTy, dataD, isRowD, PyData.isTuple]
theorem dataA_all : ∀ {xs : List PyData}, dataA xs = true → ∀ x ∈ xs, dataD x = true
  | [], _, _, h => by simp at h
  | y :: ys, h, x, hx => by
    simp only [dataA, Bool.and_eq_true] at h
    rcases List.mem_cons.mp hx with e | hx
    · rw [e]; exact h.1
    · exact dataA_all h.2 x hx
theorem compM_flat {f : PyData → Ev.Row → Res (List PyData)} {g : PyData → List PyData} {R : Ev.Row} : ∀ {ds : List PyData}, (∀ d ∈ ds, f d R = .ok (g d) R) → compM f ds R = .ok (ds.flatMap g) R
  | [], _ => rfl
  | d :: ds, h => by
    rw [compM, h d List.mem_cons_self]
    show (compM f ds R).bind _ = _
    rw [compM_flat fun d' hd => h d' (List.mem_cons_of_mem _ hd)]
    rfl
theorem compM_map {f : PyData → Ev.Row → Res (List PyData)} {g : PyData → PyData} {R : Ev.Row} {ds : List PyData} (h : ∀ d ∈ ds, f d R = .ok [g d] R) : compM f ds R = .ok (ds.map g) R := by
  rw [compM_flat h]
  congr 1
  induction ds with
  | nil => rfl
  | cons a l ih => rw [List.flatMap_cons, ih fun d hd => h d (List.mem_cons_of_mem _ hd)]; rfl
theorem compM_filter {f : PyData → Ev.Row → Res (List PyData)} {p : PyData → Bool} {g : PyData → PyData} {R : Ev.Row} {ds : List PyData} (h : ∀ d ∈ ds, f d R = .ok (if p d then [g d] else []) R) : compM f ds R = .ok ((ds.filter p).map g) R := by
  rw [compM_flat h]
  congr 1
  induction ds with
  | nil => rfl
  | cons a l ih =>
    rw [List.flatMap_cons, ih fun d hd => h d (List.mem_cons_of_mem _ hd), List.filter_cons]
    split <;> rfl
@[simp] theorem turnC_g {i : Nat} {vs : List Nat} {tt : DenB} {elt : Den} {ρ : Ev.Env} {d : PyData} {R : Ev.Row} : turnC (gSet i) vs tt elt ρ d R = (tt ((wipeE ρ vs).set i (some d)) R).bind fun b R1 => if b then (elt ((wipeE ρ vs).set i (some d)) R1).bind fun y R2 => .ok [y] R2 else .ok [] R1 := eqr rfl
@[simp] theorem turnC_p {i j : Nat} {vs : List Nat} {tt : DenB} {elt : Den} {ρ : Ev.Env} {x y : PyData} {R : Ev.Row} : turnC (gTupD 2 (gsCons (gSet i) (gsCons (gSet j) gsNil))) vs tt elt ρ (.tuple [x, y]) R = (tt (((wipeE ρ vs).set i (some x)).set j (some y)) R).bind fun b R1 => if b then (elt (((wipeE ρ vs).set i (some x)).set j (some y)) R1).bind fun z R2 => .ok [z] R2 else .ok [] R1 := eqr rfl
@[simp] theorem turnF_g {i : Nat} {s : DenS} {d : PyData} {ρ : Ev.Env} {R : Ev.Row} : turnF (gSet i) s d ρ R = s (ρ.set i (some d)) R := eqr rfl
@[simp] theorem turnF_p {i j : Nat} {s : DenS} {x y : PyData} {ρ : Ev.Env} {R : Ev.Row} : turnF (gTupD 2 (gsCons (gSet i) (gsCons (gSet j) gsNil))) s (.tuple [x, y]) ρ R = s ((ρ.set i (some x)).set j (some y)) R := eqr rfl
theorem all_map_bool {xs : List PyData} {p : PyData → Bool} : ((xs.map fun x => PyData.bool (p x)).all isBool) = true := by simp [isBool]
theorem are_wholes_eq {R : Ev.Row} {d : PyData} {n a b : Int} (h : dataD d = true) (hs : ∀ xs, d = .tuple xs → xs.length ≤ 1000000) : F_are_wholes [d, .int n, .int a, .int b] R = .ok (.bool (areWholesD d n a b)) R := by
  unfold F_are_wholes den_are_wholes
  simp [callF_def, is_row_eq h]
  cases d with
  | dict ps => simp [dataD] at h
  | tuple xs =>
    have hx : dataA xs = true := h
    have hz := small_sz (hs xs rfl)
    by_cases hn : (xs.length : Int) = n
    · have e1 : isRowD (.tuple xs) n n = true := by simp [isRowD, hn]
      rw [e1]
      simp
      rw [compM_map (g := fun x => .bool (isWholeD x a b)) fun x hx' => by simp [is_whole_eq (dataA_all hx x hx')]]
      simp [hz, areWholesD, hn]
    · have e1 : isRowD (.tuple xs) n n = false := by simp [isRowD]; omega
      rw [e1]
      simp [areWholesD, hn]
  | _ => simp [isRowD, areWholesD]
@[simp] theorem require_t {R : Ev.Row} {nm : Str} : F_require [.bool true, .str nm] R = .ok .none R := by
  unfold F_require den_require
  simp [callF_def]
@[simp] theorem require_f {R : Ev.Row} {nm : Str} : F_require [.bool false, .str nm] R = .exc nm R := by
  unfold F_require den_require
  simp [callF_def]
theorem mem_rangeL {lo : Int} {n : Nat} {d : PyData} : d ∈ rangeL lo n ↔ ∃ k : Nat, k < n ∧ d = .int (lo + (k : Int)) := by
  unfold rangeL
  simp only [List.mem_map, List.mem_range]
  exact ⟨fun ⟨k, h, e⟩ => ⟨k, h, e.symm⟩, fun ⟨k, h, e⟩ => ⟨k, h, e.symm⟩⟩
def plainD : Nat → PyData → Bool
  | 0, _ => false
  | n + 1, .tuple xs => xs.all (plainD n) && decide (xs.length ≤ 1000000)
  | _ + 1, .str x => PyData.strOk x
  | _ + 1, .int _ => true
  | _ + 1, .bool _ => true
  | _ + 1, .none => true
  | _ + 1, _ => false
theorem plain_data : ∀ {n : Nat} {d : PyData}, plainD n d = true → dataD d = true
  | 0, _, h => by simp [plainD] at h
  | n + 1, d, h => by
    cases d with
    | tuple xs =>
      simp only [plainD, Bool.and_eq_true, List.all_eq_true] at h
      exact dataAll fun x hx => plain_data (h.1 x hx)
    | list xs => simp [plainD] at h
    | dict xs => simp [plainD] at h
    | _ => rfl
theorem in62_nat {n : Nat} (h : n ≤ 1000000) : in62 ((n : Nat) : Int) := by unfold in62; omega
theorem compM_nil {f : PyData → Ev.Row → Res (List PyData)} {R : Ev.Row} {ds : List PyData} (h : ∀ d ∈ ds, f d R = .ok [] R) : compM f ds R = .ok [] R := by
  rw [compM_flat h]
  congr 1
  induction ds with
  | nil => rfl
  | cons a l ih => rw [List.flatMap_cons, ih fun d hd => h d (List.mem_cons_of_mem _ hd)]; rfl
theorem alike_leaf {n : Nat} {d : PyData} {R : Ev.Row} (h1 : dataD d = true) (h2 : PyData.isTuple d = false) (h3 : eqD d d = some (.bool true)) (h4 : noneD d = true ∨ PyData.isStr d = true ∨ PyData.isInt d = true) : F__law_alike (n + 1) [d, d] R = .ok (.bool true) R := by
  unfold F__law_alike den__law_alike
  have e1 : ∀ b : Bool, eqD (.bool b) (.bool b) = some (.bool true) := fun b => by cases b <;> rfl
  rcases h4 with h4 | h4 | h4
  · simp [callF_def, isiD, isTy, h1, h2, h3, h4, e1]
  · by_cases h5 : noneD d = true
    · simp [callF_def, isiD, isTy, h1, h2, h3, h4, h5, e1]
    · have h5 : noneD d = false := by simpa using h5
      simp [callF_def, isiD, isTy, h1, h2, h3, h4, h5, e1]
  · by_cases h5 : noneD d = true
    · simp [callF_def, isiD, isTy, h1, h2, h3, h4, h5, e1]
    · have h5 : noneD d = false := by simpa using h5
      by_cases h6 : PyData.isStr d = true
      · simp [callF_def, isiD, isTy, h1, h2, h3, h4, h5, h6, e1]
      · have h6 : PyData.isStr d = false := by simpa using h6
        simp [callF_def, isiD, isTy, h1, h2, h3, h4, h5, h6, e1]
theorem alike_tup {n : Nat} {xs : List PyData} {R : Ev.Row} (hd : dataA xs = true) (hl : xs.length ≤ 1000000) (ih : ∀ x ∈ xs, F__law_alike n [x, x] R = .ok (.bool true) R) : F__law_alike (n + 1) [.tuple xs, .tuple xs] R = .ok (.bool true) R := by
  have hne : neD (.int (xs.length : Int)) (.int (xs.length : Int)) = some (.bool false) := by simp [neD, shp, PyData.eqv]
  have heq : eqD (.list []) (.list []) = some (.bool true) := by simp [eqD, shp, PyData.eqv, PyData.eqvAll]
  unfold F__law_alike den__law_alike
  simp [callF_def, isiD, isTy, dataD, PyData.isTuple, hd, hne, rng1_s (j := (xs.length : Int)) (by omega) (by omega)]
  rw [compM_nil fun d hk => ?_]
  · simp [heq]
  · obtain ⟨k, hk, rfl⟩ := mem_rangeL.mp hk
    obtain ⟨x, e, m, _⟩ := atI_lt (xs := xs) (i := 0 + (k : Int)) (by omega) (by omega)
    simp at e
    simp [e, ih x m]
theorem alike_true (n : Nat) : ∀ (d : PyData) (R : Ev.Row), plainD n d = true → F__law_alike n [d, d] R = .ok (.bool true) R := by
  induction n with
  | zero => intro d R h; simp [plainD] at h
  | succ n ih =>
    intro d R h
    have hd := plain_data h
    cases d with
    | tuple xs =>
      simp only [plainD, Bool.and_eq_true, List.all_eq_true, decide_eq_true_eq] at h
      exact alike_tup hd h.2 fun x hx => ih x R (h.1 x hx)
    | list xs => simp [plainD] at h
    | dict xs => simp [plainD] at h
    | none => exact alike_leaf rfl rfl rfl (.inl rfl)
    | str x =>
      have h' : PyData.strOk x = true := h
      exact alike_leaf rfl rfl (by simp [eqD, shp, PyData.eqv, h']) (.inr (.inl rfl))
    | int i => exact alike_leaf rfl rfl (by simp [eqD, shp, PyData.eqv]) (.inr (.inr rfl))
    | bool i => exact alike_leaf rfl rfl (by simp [eqD, shp, PyData.eqv]) (.inr (.inr rfl))
end Sh

/-! Ev: loops by invariants -/
namespace Ev
open PySem PySem.Spec
theorem ends_eq {α : Type} {r : Res α} {X : α} {R : Row} (h : Ends r (fun d R' => d = X ∧ R' = R) FX) : r = .ok X R := by
  cases r with
  | ok a R1 => obtain ⟨rfl, rfl⟩ := h; rfl
  | exc nm R1 => exact h.elim
  | stuck => exact h.elim
theorem forM_ends {α : Type} (enc : α → PyData) {f : PyData → Env → Row → Res Fl} (I : List α → Env → Row → Prop) {l : List α} (hs : ∀ pre d suf ρ R, l = pre ++ d :: suf → I pre ρ R → Ends (f (enc d) ρ R) (fun fl R' => ∃ ρ', fl = .nx ρ' ∧ I (pre ++ [d]) ρ' R') FX) :
    ∀ (pre suf : List α) (ρ : Env) (R : Row), l = pre ++ suf → I pre ρ R → Ends (forM f (suf.map enc) ρ R) (fun fl R' => ∃ ρ', fl = .nx ρ' ∧ I l ρ' R') FX
  | pre, [], ρ, R, e, h => ⟨ρ, rfl, by rw [e, List.append_nil]; exact h⟩
  | pre, d :: suf, ρ, R, e, h => by
    show Ends ((f (enc d) ρ R).bind _) _ _
    refine Ends.step (hs pre d suf ρ R e h) fun fl R' ⟨ρ', e1, h1⟩ => ?_
    subst e1
    exact forM_ends enc I hs (pre ++ [d]) suf ρ' R' (by rw [e, List.append_assoc]; rfl) h1
/-- for d in l: an invariant of what has been seen -/
theorem for_inv {α : Type} (enc : α → PyData) {f : PyData → Env → Row → Res Fl} (I : List α → Env → Row → Prop) {l : List α} {ρ : Env} {R : Row} (h0 : I [] ρ R) (hs : ∀ pre d suf ρ R, l = pre ++ d :: suf → I pre ρ R → Ends (f (enc d) ρ R) (fun fl R' => ∃ ρ', fl = .nx ρ' ∧ I (pre ++ [d]) ρ' R') FX) :
    Ends (forM f (l.map enc) ρ R) (fun fl R' => ∃ ρ', fl = .nx ρ' ∧ I l ρ' R') FX := forM_ends enc I hs [] l ρ R rfl h0
/-- for i in range(lo, lo + n) -/
theorem for_range {f : PyData → Env → Row → Res Fl} {lo : Int} {n : Nat} {ρ : Env} {R : Row} (I : Nat → Env → Row → Prop) (h0 : I 0 ρ R) (hs : ∀ k ρ R, k < n → I k ρ R → Ends (f (.int (lo + (k : Int))) ρ R) (fun fl R' => ∃ ρ', fl = .nx ρ' ∧ I (k + 1) ρ' R') FX) :
    Ends (forM f (rangeL lo n) ρ R) (fun fl R' => ∃ ρ', fl = .nx ρ' ∧ I n ρ' R') FX := by
  have h := for_inv (l := List.range n) (fun k : Nat => PyData.int (lo + (k : Int))) (f := f) (fun pre ρ R => I pre.length ρ R) (ρ := ρ) (R := R) h0 fun pre d suf ρ R e h => ?_
  · rw [List.length_range] at h
    exact h
  · have hl : pre.length < n := by
      have := congrArg List.length e
      rw [List.length_range, List.length_append, List.length_cons] at this
      omega
    have hd : d = pre.length := by
      have h1 : (List.range n)[pre.length]? = some d := by rw [e]; simp
      rw [List.getElem?_range hl] at h1
      exact (Option.some.inj h1).symm
    subst hd
    rw [List.length_append]
    exact hs _ ρ R hl h
/-- a comprehension whose turns draw -/
theorem comp_draw {α : Type} (enc : α → PyData) {f : PyData → Row → Res (List PyData)} (I : Row → Prop) (P : PyData → Prop) : ∀ {l : List α} {R : Row}, I R → (∀ d ∈ l, ∀ R, I R → Ends (f (enc d) R) (fun o R' => ∃ x, o = [x] ∧ P x ∧ I R') FX) →
    Ends (compM f (l.map enc) R) (fun o R' => o.length = l.length ∧ (∀ x ∈ o, P x) ∧ I R') FX
  | [], R, h, _ => ⟨rfl, (fun x hx => by simp at hx), h⟩
  | d :: l, R, h, hs => by
    have h1 := hs d List.mem_cons_self R h
    show Ends (compM f (enc d :: l.map enc) R) _ _
    unfold compM
    cases hr : f (enc d) R with
    | stuck => rw [hr] at h1; exact h1.elim
    | exc nm R1 => rw [hr] at h1; exact h1.elim
    | ok o R1 =>
      rw [hr] at h1
      obtain ⟨x, rfl, hx, hI⟩ := h1
      refine Ends.step (comp_draw enc I P hI fun d' hd => hs d' (List.mem_cons_of_mem _ hd)) fun o2 R2 ⟨e1, e2, e3⟩ => ?_
      refine ⟨by simp [e1], fun y hy => ?_, e3⟩
      rcases List.mem_append.mp hy with hy | hy
      · rw [List.mem_singleton.mp hy]; exact hx
      · exact e2 y hy
theorem rangeL_map {lo : Int} {n : Nat} : rangeL lo n = (List.range n).map fun k : Nat => PyData.int (lo + (k : Int)) := rfl
theorem snoc_ind {α : Type} {P : List α → Prop} (h0 : P []) (hs : ∀ l a, P l → P (l ++ [a])) (l : List α) : P l := by
  have h : ∀ m : List α, P m.reverse := fun m => by
    induction m with
    | nil => exact h0
    | cons a m ih => rw [List.reverse_cons]; exact hs _ a ih
  have := h l.reverse
  rw [List.reverse_reverse] at this
  exact this
theorem snoc_eq {α : Type} {l pre suf : List α} {a : α} (e : l = pre ++ a :: suf) : l = (pre ++ [a]) ++ suf := by rw [e, List.append_assoc]; rfl
@[simp] theorem atI_zero {α : Type} {a : α} {l : List α} : L2.atI (a :: l) 0 = some a := by
  unfold L2.atI L2.ixN
  rw [if_pos (by decide), if_pos (by rw [List.length_cons]; omega)]
  rfl
@[simp] theorem atI_one {α : Type} {a b : α} {l : List α} : L2.atI (a :: b :: l) 1 = some b := by
  unfold L2.atI L2.ixN
  rw [if_pos (by decide), if_pos (by rw [List.length_cons, List.length_cons]; omega)]
  rfl
@[simp] theorem atI_two {α : Type} {a b c : α} {l : List α} : L2.atI (a :: b :: c :: l) 2 = some c := by
  unfold L2.atI L2.ixN
  rw [if_pos (by decide), if_pos (by rw [List.length_cons, List.length_cons, List.length_cons]; omega)]
  rfl
theorem atI_nat {α : Type} {l : List α} {i : Nat} (h : i < l.length) : L2.atI l (i : Int) = some (l[i]'h) := by
  unfold L2.atI L2.ixN
  rw [if_pos (by omega), if_pos (by omega)]
  show l[((i : Nat) : Int).toNat]? = _
  rw [Int.toNat_natCast]
  exact List.getElem?_eq_getElem h
theorem atI_map {α β : Type} {f : α → β} {l : List α} {i : Nat} (h : i < l.length) : L2.atI (l.map f) (i : Int) = some (f (l[i]'h)) := by
  rw [atI_nat (by rw [List.length_map]; exact h), List.getElem_map]
theorem range_zip {α β γ : Type} {F : α → β → γ} (da : α) (db : β) (xs : List α) (ys : List β) (h : xs.length = ys.length) : (List.range xs.length).map (fun i => F (xs[i]?.getD da) (ys[i]?.getD db)) = List.zipWith F xs ys := by
  apply List.ext_getElem
  · simp [h]
  · intro i h1 h2
    rw [List.getElem_map, List.getElem_range, List.getElem_zipWith]
    have a : i < xs.length := by rw [List.length_map, List.length_range] at h1; exact h1
    rw [List.getElem?_eq_getElem a, List.getElem?_eq_getElem (h ▸ a)]
    rfl
theorem flat_one {α β : Type} (f : α → β) : ∀ l : List α, (l.flatMap fun x => [f x]) = l.map f
  | [] => rfl
  | a :: l => by rw [List.flatMap_cons, flat_one f l]; rfl
theorem flat_if {α β : Type} (p : α → Bool) (f : α → β) : ∀ l : List α, (l.flatMap fun x => if p x then [f x] else []) = (l.filter p).map f
  | [] => rfl
  | a :: l => by rw [List.flatMap_cons, flat_if p f l, List.filter_cons]; split <;> rfl
@[simp] theorem ints_all {α : Type} (f : α → Int) (l : List α) : (l.map fun x => PyData.int (f x)).all isInt = true := by simp [isInt]
@[simp] theorem ints_all' (l : List Int) : (l.map PyData.int).all isInt = true := by simp [isInt]
@[simp] theorem ints_of (l : List Int) : (l.map PyData.int).map intOf = l := by rw [List.map_map]; exact List.map_id'' (fun _ => rfl) l
theorem zw_map {α β γ : Type} (F : α → β → γ) : ∀ (xs : List α) (ys : List β), List.zipWith F xs ys = (xs.zip ys).map fun p => F p.1 p.2
  | [], _ => by simp
  | _ :: _, [] => by simp
  | a :: xs, b :: ys => by simp [zw_map F xs ys]
@[simp] theorem eqD_i {a b : Int} : eqD (.int a) (.int b) = some (.bool (decide (a = b))) := by
  simp [eqD, PyData.eqv]
  rfl
@[simp] theorem neD_i {a b : Int} : neD (.int a) (.int b) = some (.bool (!decide (a = b))) := by
  simp [neD, PyData.eqv]
  rfl
@[simp] theorem sz_1 : 1 ≤ sizeLine := small_sz (by decide)
@[simp] theorem sz_2 : 2 ≤ sizeLine := small_sz (by decide)
@[simp] theorem sz_3 : 3 ≤ sizeLine := small_sz (by decide)
@[simp] theorem sz_4 : 4 ≤ sizeLine := small_sz (by decide)
@[simp] theorem sz_5 : 5 ≤ sizeLine := small_sz (by decide)
@[simp] theorem sz_6 : 6 ≤ sizeLine := small_sz (by decide)
@[simp] theorem sz_7 : 7 ≤ sizeLine := small_sz (by decide)
@[simp] theorem sz_8 : 8 ≤ sizeLine := small_sz (by decide)
@[simp] theorem sz_9 : 9 ≤ sizeLine := small_sz (by decide)
@[simp] theorem sz_10 : 10 ≤ sizeLine := small_sz (by decide)
@[simp] theorem sz_11 : 11 ≤ sizeLine := small_sz (by decide)
@[simp] theorem sz_12 : 12 ≤ sizeLine := small_sz (by decide)
@[simp] theorem sz_13 : 13 ≤ sizeLine := small_sz (by decide)
@[simp] theorem sz_14 : 14 ≤ sizeLine := small_sz (by decide)
@[simp] theorem sz_15 : 15 ≤ sizeLine := small_sz (by decide)
@[simp] theorem sz_16 : 16 ≤ sizeLine := small_sz (by decide)
end Ev

/-! Ev: the order of rows of ints -/
namespace Ev
open PySem PySem.Spec
theorem eqv_ints : ∀ xs ys : List Int, PyData.eqvAll (xs.map PyData.int) (ys.map PyData.int) = decide (xs = ys)
  | [], [] => by simp [PyData.eqvAll]
  | [], _ :: _ => by simp [PyData.eqvAll]
  | _ :: _, [] => by simp [PyData.eqvAll]
  | a :: xs, b :: ys => by
    rw [List.map_cons, List.map_cons, PyData.eqvAll, eqv_ints xs ys, PyData.eqv]
    by_cases h : a = b <;> by_cases h2 : xs = ys <;> simp [h, h2]
theorem eqv_row (xs ys : List Int) : PyData.eqv (.tuple (xs.map PyData.int)) (.tuple (ys.map PyData.int)) = decide (xs = ys) := by
  rw [PyData.eqv]
  exact eqv_ints xs ys
theorem lt_row (xs ys : List Int) : PySem.W.dataLt (.tuple (xs.map PyData.int)) (.tuple (ys.map PyData.int)) = decide (xs < ys) := by
  rw [PySem.W.dataLt_tuple]
  exact PySem.W.dataLt_ints xs ys
theorem alike_ints : ∀ xs ys : List Int, PySem.W.alikeAll (xs.map PyData.int) (ys.map PyData.int) = true
  | [], _ => by simp [PySem.W.alikeAll]
  | _ :: _, [] => by simp [PySem.W.alikeAll]
  | a :: xs, b :: ys => by
    rw [List.map_cons, List.map_cons, PySem.W.alikeAll, alike_ints xs ys, PySem.W.alike]
    rfl
/-- (s, xs) ahead of (t, ys) -/
def keyLt (s : Int) (xs : List Int) (t : Int) (ys : List Int) : Prop := s < t ∨ (s = t ∧ xs < ys)
instance (s : Int) (xs : List Int) (t : Int) (ys : List Int) : Decidable (keyLt s xs t ys) := inferInstanceAs (Decidable (_ ∨ _))
theorem lt_key (s t : Int) (xs ys : List Int) : PySem.W.dataLt (.tuple [.int s, .tuple (xs.map PyData.int)]) (.tuple [.int t, .tuple (ys.map PyData.int)]) = decide (keyLt s xs t ys) := by
  rw [PySem.W.dataLt_pair rfl (by rw [PySem.W.alike]; exact alike_ints xs ys), eqv_row, lt_row, PySem.W.dataLt_int, PyData.eqv]
  unfold keyLt
  by_cases h : s = t
  · subst h
    by_cases h2 : xs = ys
    · subst h2
      simp [List.lt_irrefl]
    · simp [h2]
  · simp [h]
theorem row_app {xs ys : List Int} (h : xs.length = ys.length) (t : Int) : xs ++ [t] < ys ++ [t] ↔ xs < ys := by
  induction xs generalizing ys with
  | nil =>
    cases ys with
    | nil => simp [List.lt_irrefl]
    | cons b ys => simp at h
  | cons a xs ih =>
    cases ys with
    | nil => simp at h
    | cons b ys =>
      have h : xs.length = ys.length := by simpa using h
      rw [List.cons_append, List.cons_append, List.cons_lt_cons_iff, List.cons_lt_cons_iff, ih h]
theorem keyLt_irr (s : Int) (xs : List Int) : ¬ keyLt s xs s xs := by
  unfold keyLt
  intro h
  rcases h with h | h
  · omega
  · exact List.lt_irrefl _ h.2
theorem keyLt_trans {s t u : Int} {xs ys zs : List Int} (h : keyLt s xs t ys) (h2 : keyLt t ys u zs) : keyLt s xs u zs := by
  unfold keyLt at *
  rcases h with h | ⟨h, h'⟩ <;> rcases h2 with h2 | ⟨h2, h2'⟩
  · exact .inl (by omega)
  · exact .inl (by omega)
  · exact .inl (by omega)
  · exact .inr ⟨by omega, List.lt_trans h' h2'⟩
theorem keyLt_tot {s t : Int} {xs ys : List Int} (h : ¬ keyLt s xs t ys) (h2 : ¬ keyLt t ys s xs) : s = t ∧ xs = ys := by
  unfold keyLt at *
  have e : s = t := by omega
  refine ⟨e, ?_⟩
  have a : ¬ xs < ys := fun z => h (.inr ⟨e, z⟩)
  have b : ¬ ys < xs := fun z => h2 (.inr ⟨e.symm, z⟩)
  exact List.le_antisymm (List.not_lt.mp b) (List.not_lt.mp a)
/-! ### dicts of int keys -/
def encD {α : Type} (v : α → PyData) (D : List (Int × α)) : List (PyData × PyData) := D.map fun p => (.int p.1, v p.2)
section
variable {α : Type} {v : α → PyData} {D : List (Int × α)} {t : Int}
theorem keq_i {a b : Int} : keq (.int a) (.int b) = decide (a = b) := by
  unfold keq toKey
  simp
@[simp] theorem kin_enc : kinOk (encD v D) (.int t) = true := by
  unfold kinOk encD
  simp [toKey]
theorem dget_enc : dget (encD v D) (.int t) = (D.find? fun p => decide (p.1 = t)).map fun p => v p.2 := by
  unfold dget encD
  rw [List.find?_map, Option.map_map]
  simp only [Function.comp_def, keq_i]
def putD (D : List (Int × α)) (t : Int) (a : α) : List (Int × α) := if D.any (fun p => decide (p.1 = t)) = true then D.map (fun p => if p.1 = t then (p.1, a) else p) else D ++ [(t, a)]
theorem dput_enc {a : α} : dput (encD v D) (.int t) (v a) = encD v (putD D t a) := by
  unfold dput putD encD
  rw [List.any_map]
  simp only [Function.comp_def, keq_i]
  split
  · rw [List.map_map, List.map_map]
    apply List.map_congr_left
    intro p _
    simp only [Function.comp_def, keq_i, decide_eq_true_eq]
    split <;> rfl
  · rw [List.map_append]
    rfl
theorem keys_enc : (encD v D).map (·.1) = D.map fun p => PyData.int p.1 := by
  unfold encD
  rw [List.map_map]
  rfl
theorem keysD_enc : keysD (.dict (encD v D)) = some (D.map fun p => PyData.int p.1) := by
  show (if ((encD v D).all fun p => (toKey p.1).isSome) = true then some ((encD v D).map (·.1)) else none) = _
  rw [if_pos (by simp [encD, toKey]), keys_enc]
theorem mem_putD (nd : (D.map (·.1)).Nodup) {a : α} {q : Int × α} : q ∈ putD D t a ↔ q = (t, a) ∨ (q ∈ D ∧ q.1 ≠ t) := by
  unfold putD
  by_cases h : D.any (fun p => decide (p.1 = t)) = true
  · rw [if_pos h]
    simp only [List.mem_map]
    obtain ⟨p0, hp0, e0⟩ := List.any_eq_true.mp h
    have e0 := of_decide_eq_true e0
    constructor
    · rintro ⟨p, hp, rfl⟩
      by_cases e : p.1 = t
      · rw [if_pos e, e]; exact .inl rfl
      · rw [if_neg e]; exact .inr ⟨hp, e⟩
    · rintro (rfl | ⟨hq, hn⟩)
      · exact ⟨p0, hp0, by rw [if_pos e0, e0]⟩
      · exact ⟨q, hq, by rw [if_neg hn]⟩
  · rw [if_neg h]
    have hn : ∀ p ∈ D, p.1 ≠ t := fun p hp e => h (List.any_eq_true.mpr ⟨p, hp, decide_eq_true e⟩)
    rw [List.mem_append, List.mem_singleton]
    constructor
    · rintro (hq | rfl)
      · exact .inr ⟨hq, hn q hq⟩
      · exact .inl rfl
    · rintro (rfl | ⟨hq, _⟩)
      · exact .inr rfl
      · exact .inl hq
theorem nd_putD (nd : (D.map (·.1)).Nodup) {a : α} : ((putD D t a).map (·.1)).Nodup := by
  unfold putD
  split
  · rw [List.map_map]
    have e : ((fun p : Int × α => p.1) ∘ fun p => if p.1 = t then (p.1, a) else p) = fun p => p.1 := by
      funext p
      simp only [Function.comp_def]
      split <;> rfl
    rw [e]
    exact nd
  · rename_i h
    rw [List.map_append, List.nodup_append]
    refine ⟨nd, by simp, fun x hx y hy e => ?_⟩
    obtain ⟨p, hp, rfl⟩ := List.mem_map.mp hx
    simp at hy
    exact h (List.any_eq_true.mpr ⟨p, hp, decide_eq_true (e.trans hy)⟩)
theorem find_enc (nd : (D.map (·.1)).Nodup) {a : α} (h : (t, a) ∈ D) : (D.find? fun p => decide (p.1 = t)) = some (t, a) := by
  induction D with
  | nil => simp at h
  | cons p D ih =>
    rw [List.map_cons, List.nodup_cons] at nd
    rw [List.find?_cons]
    rcases List.mem_cons.mp h with e | h
    · rw [← e]; simp
    · have hne : p.1 ≠ t := fun e => nd.1 (List.mem_map.mpr ⟨(t, a), h, e.symm⟩)
      rw [decide_eq_false hne]
      exact ih nd.2 h
theorem find_no : (D.find? fun p => decide (p.1 = t)) = none ↔ ∀ p ∈ D, p.1 ≠ t := by
  rw [List.find?_eq_none]
  simp
end
theorem len_putD {α : Type} {D : List (Int × α)} {t : Int} {a : α} : (putD D t a).length ≤ D.length + 1 := by
  unfold putD
  split
  · rw [List.length_map]; omega
  · rw [List.length_append]; simp
@[simp] theorem sForK_ap {ks : List Nat} {i : Nat} {t : Tgt} {s : DenS} {ρ : Env} {R : Row} : sForK ks i t s ρ R = if i ∈ ks then .stuck else (ofO ((valAt ρ i).bind keysD) R).bind fun ds R1 => noX (forM (turnF t s) ds ρ R1) := eqr rfl
theorem Ends.to_noX {α : Type} {r : Res α} {ok : α → Row → Prop} {ex : Str → Row → Prop} (h : Ends r ok FX) : Ends (Ev.noX r) ok ex := by
  cases r with
  | ok a R => exact h
  | exc n R => exact h.elim
  | stuck => exact h
theorem Ends.stepX {α β : Type} {r : Res α} {f : α → Row → Res β} {P : α → Row → Prop} {ok : β → Row → Prop} {ex : Str → Row → Prop} (h : Ends r P FX) (k : ∀ a R, P a R → Ends (f a R) ok ex) : Ends ((Ev.noX r).bind f) ok ex := Ends.step (Ends.to_noX h) k
theorem idx_enc {α : Type} {v : α → PyData} {D : List (Int × α)} {t : Int} {a : α} (nd : (D.map (·.1)).Nodup) (h : (t, a) ∈ D) : idxD (.dict (encD v D)) (.int t) = some (v a) := by
  rw [idxD_d, if_pos kin_enc, dget_enc, find_enc nd h]
  rfl
theorem in_enc {α : Type} {v : α → PyData} {D : List (Int × α)} {t : Int} : inD (.int t) (.dict (encD v D)) = some (D.find? fun p => decide (p.1 = t)).isSome := by
  show (if kinOk (encD v D) (.int t) = true then some (dget (encD v D) (.int t)).isSome else none) = _
  rw [if_pos kin_enc, dget_enc, Option.isSome_map]
theorem set_enc {α : Type} {v : α → PyData} {D : List (Int × α)} {t : Int} {a : α} (h : D.length < sizeLine) : setD (.dict (encD v D)) (.int t) (v a) = some (.dict (encD v (putD D t a))) := by
  rw [setD_d, kin_enc, dput_enc]
  have e : (encD v D).length = D.length := by unfold encD; simp
  rw [e, decide_eq_true h]
  rfl
theorem ends_of {α : Type} {r : Res α} {X : α} {R : Row} {ok : α → Row → Prop} {ex : Str → Row → Prop} (h : r = .ok X R) (k : ok X R) : Ends r ok ex := by rw [h]; exact k
end Ev

namespace K25
open PySem PySem.Spec PyProof.Rows L2 Ev LamX
def top (i : Nat) : Stmt := PySem.Challenge.pw_logsawn_k25_whole_choices_of_kinds.main.body.getD i (.Pass ⟨0, 0, 0, 0⟩)
section
variable {P : Program} {w : World} {K : PySem.W.Frag} {mg : Str → Option Value} {base : Heap} {c : Cfg}
abbrev s_require : Stmt := top 3
def den_require : DenS :=
    (sIf (bNot (dTB (dVar 0)))
      (sRaise (dVar 1))
      sNext)
def F_require : List PyData → Ev.Row → Res PyData := callF 0 den_require
theorem sc_require : FnScope ["is_right", "name"] ["is_right", "name"] (defScope s_require) := ⟨rfl, rfl, rfl, by decide +kernel, rfl, by decide +kernel, by decide +kernel⟩
theorem nd_require : (["is_right", "name"] : List Str).Nodup := by decide +kernel
theorem w_require (bl : Blts mg) (B : Bad P w K mg base c.CB) {f : Addr} {fd : FuncData} {cdv : Value} (F : FunC K "require" s_require f fd cdv) (hm : mg "require" = some (.ref f)) : Fn P w K mg base c 3 "require" ["is_right", "name"] F_require :=
  fn_body (OL := []) F sc_require hm rfl (fun _ _ _ _ _ _ us hl => match us, hl with | [_, _], _ => rfl) (fun _ _ _ _ _ _ us ws ks h1 h2 h3 => match us, ws, h2 with | [], [_, _], _ => by subst h1; rfl | [_], [_], _ => by subst h1; rfl | [_, _], [], _ => absurd rfl h3) fun A outer s H E hr => have nd := nd_require; (dss_one (ds_if (dt_not (dt_val (de_var 0)))
      (dss_one (ds_raise (O' := []) B rfl hr (by decide) (cx_takes (CX0 := 0)) (de_var 1)))
      dss_nil))
abbrev s_is_whole : Stmt := top 4
def den_is_whole : DenS :=
    (sRet (dAnd (dUn (isiD "int") (dVar 0)) (dAnd (dNot (dUn (isiD "bool") (dVar 0))) (dChain (cmpD fun i j => decide (i ≤ j)) (cmpD fun i j => decide (i ≤ j)) (dVar 1) (dVar 0) (dVar 2)))))
def F_is_whole : List PyData → Ev.Row → Res PyData := callF 0 den_is_whole
theorem sc_is_whole : FnScope ["value", "least", "most"] ["value", "least", "most"] (defScope s_is_whole) := ⟨rfl, rfl, rfl, by decide +kernel, rfl, by decide +kernel, by decide +kernel⟩
theorem nd_is_whole : (["value", "least", "most"] : List Str).Nodup := by decide +kernel
theorem w_is_whole (bl : Blts mg)  {f : Addr} {fd : FuncData} {cdv : Value} (F : FunC K "is_whole" s_is_whole f fd cdv) (hm : mg "is_whole" = some (.ref f)) : Fn P w K mg base c 1 "is_whole" ["value", "least", "most"] F_is_whole :=
  fn_body (OL := []) F sc_is_whole hm rfl (fun _ _ _ _ _ _ us hl => match us, hl with | [_, _, _], _ => rfl) (fun _ _ _ _ _ _ us ws ks h1 h2 h3 => match us, ws, h2 with | [], [_, _, _], _ => by subst h1; rfl | [_], [_, _], _ => by subst h1; rfl | [_, _], [_], _ => by subst h1; rfl | [_, _, _], [], _ => absurd rfl h3) fun A outer s H E hr => have nd := nd_is_whole; (dss_one (ds_ret (O1 := []) (de_and (de_isi (T := "int") (de_var 0) bl.isinstance bl.int) (de_and (de_not (de_isi (T := "bool") (de_var 0) bl.isinstance bl.bool)) (de_one (de_chain cmD_le cmD_le (de_var 1) (de_var 0) (de_var 2)))))))
abbrev s_is_row : Stmt := top 5
def den_is_row : DenS :=
    (sRet (dAnd (dUn (isiD "tuple") (dVar 0)) (dChain (cmpD fun i j => decide (i ≤ j)) (cmpD fun i j => decide (i ≤ j)) (dVar 1) (dBlt lenD (lCons (dVar 0) lNil)) (dVar 2))))
def F_is_row : List PyData → Ev.Row → Res PyData := callF 0 den_is_row
theorem sc_is_row : FnScope ["value", "least", "most"] ["value", "least", "most"] (defScope s_is_row) := ⟨rfl, rfl, rfl, by decide +kernel, rfl, by decide +kernel, by decide +kernel⟩
theorem nd_is_row : (["value", "least", "most"] : List Str).Nodup := by decide +kernel
theorem w_is_row (bl : Blts mg)  {f : Addr} {fd : FuncData} {cdv : Value} (F : FunC K "is_row" s_is_row f fd cdv) (hm : mg "is_row" = some (.ref f)) : Fn P w K mg base c 1 "is_row" ["value", "least", "most"] F_is_row :=
  fn_body (OL := []) F sc_is_row hm rfl (fun _ _ _ _ _ _ us hl => match us, hl with | [_, _, _], _ => rfl) (fun _ _ _ _ _ _ us ws ks h1 h2 h3 => match us, ws, h2 with | [], [_, _, _], _ => by subst h1; rfl | [_], [_, _], _ => by subst h1; rfl | [_, _], [_], _ => by subst h1; rfl | [_, _, _], [], _ => absurd rfl h3) fun A outer s H E hr => have nd := nd_is_row; (dss_one (ds_ret (O1 := []) (de_and (de_isi (T := "tuple") (de_var 0) bl.isinstance bl.tuple) (de_one (de_chain cmD_le cmD_le (de_var 1) (de_blt blt_len (das_cons (de_var 0) das_nil) bl.len) (de_var 2))))))
abbrev s_are_wholes : Stmt := top 6
def den_are_wholes : DenS :=
    (sRet (dAnd (dCallF F_is_row (lCons (dVar 0) (lCons (dVar 1) (lCons (dVar 1) lNil)))) (dBlt allD (lCons (dLst (nComp (lSeq (dVar 0)) (gSet 4) [4] bYes (dCallF F_is_whole (lCons (dVar 4) (lCons (dVar 2) (lCons (dVar 3) lNil)))))) lNil))))
def F_are_wholes : List PyData → Ev.Row → Res PyData := callF 1 den_are_wholes
theorem sc_are_wholes : FnScope ["value", "many", "least", "most", "own"] ["value", "many", "least", "most"] (defScope s_are_wholes) := ⟨rfl, rfl, rfl, by decide +kernel, rfl, by decide +kernel, by decide +kernel⟩
theorem nd_are_wholes : (["value", "many", "least", "most", "own"] : List Str).Nodup := by decide +kernel
theorem w_are_wholes (bl : Blts mg) (f_is_row : Fn P w K mg base c 1 "is_row" ["value", "least", "most"] F_is_row) (f_is_whole : Fn P w K mg base c 1 "is_whole" ["value", "least", "most"] F_is_whole) {f : Addr} {fd : FuncData} {cdv : Value} (F : FunC K "are_wholes" s_are_wholes f fd cdv) (hm : mg "are_wholes" = some (.ref f)) : Fn P w K mg base c 2 "are_wholes" ["value", "many", "least", "most"] F_are_wholes :=
  fn_body (OL := []) F sc_are_wholes hm rfl (fun _ _ _ _ _ _ us hl => match us, hl with | [_, _, _, _], _ => rfl) (fun _ _ _ _ _ _ us ws ks h1 h2 h3 => match us, ws, h2 with | [], [_, _, _, _], _ => by subst h1; rfl | [_], [_, _, _], _ => by subst h1; rfl | [_, _], [_, _], _ => by subst h1; rfl | [_, _, _], [_], _ => by subst h1; rfl | [_, _, _, _], [], _ => absurd rfl h3) fun A outer s H E hr => have nd := nd_are_wholes; (dss_one (ds_ret (O1 := []) (de_and (de_call f_is_row hr (by decide) cx_pass (das_cons (de_var 0) (das_cons (de_var 1) (das_cons (de_var 1) das_nil))) (len_cons (len_cons (len_cons len_nil)))) (de_one (de_blt (blt_all rfl) (das_cons (DN.de (dn_comp (own := [("own", 4)]) rfl nd (tok_name 4) (di_seq (de_var 0)) rfl rfl (fun s H C cl fp => (dg_name 4 nd)) (fun s H C cl fp => dts_nil) (fun s H C cl fp => (de_call f_is_whole hr (by decide) passL (das_cons (de_var 4) (das_cons (de_var 2) (das_cons (de_var 3) das_nil))) (len_cons (len_cons (len_cons len_nil))))))) das_nil) bl.all)))))
abbrev s_are_kinds : Stmt := top 12
def den_are_kinds : DenS :=
    (sSeq (sIf (bOr (bNot (dTB (dCallF F_is_row (lCons (dVar 0) (lCons (dC (.int 1)) (lCons (dC (.int 6)) lNil)))))) (bNot (dTB (dBlt allD (lCons (dLst (nComp (lSeq (dVar 0)) (gSet 1) [1] bYes (dCallF F_is_row (lCons (dVar 1) (lCons (dC (.int 2)) (lCons (dC (.int 2)) lNil)))))) lNil)))))
      (sRet (dC (.bool false)))
      sNext)
    (sRet (dBlt allD (lCons (dLst (nComp (lSeq (dVar 0)) (gSet 1) [1] bYes (dAnd (dCallF F_is_whole (lCons (dBin idxD (dVar 1) (dC (.int 0))) (lCons (dC (.int 1)) (lCons (dC (.int 99)) lNil)))) (dCallF F_is_whole (lCons (dBin idxD (dVar 1) (dC (.int 1))) (lCons (dC (.int 0)) (lCons (dC (.int 20)) lNil))))))) lNil))))
def F_are_kinds : List PyData → Ev.Row → Res PyData := callF 1 den_are_kinds
theorem sc_are_kinds : FnScope ["value", "own"] ["value"] (defScope s_are_kinds) := ⟨rfl, rfl, rfl, by decide +kernel, rfl, by decide +kernel, by decide +kernel⟩
theorem nd_are_kinds : (["value", "own"] : List Str).Nodup := by decide +kernel
theorem w_are_kinds (bl : Blts mg) (f_is_row : Fn P w K mg base c 1 "is_row" ["value", "least", "most"] F_is_row) (f_is_whole : Fn P w K mg base c 1 "is_whole" ["value", "least", "most"] F_is_whole) (c_MOST_KINDS : ∃ t, mg "MOST_KINDS" = some (.int 6 t)) (c_MOST_PIECES : ∃ t, mg "MOST_PIECES" = some (.int 20 t)) (c_MOST_WEIGHT : ∃ t, mg "MOST_WEIGHT" = some (.int 99 t)) {f : Addr} {fd : FuncData} {cdv : Value} (F : FunC K "are_kinds" s_are_kinds f fd cdv) (hm : mg "are_kinds" = some (.ref f)) : Fn P w K mg base c 2 "are_kinds" ["value"] F_are_kinds :=
  fn_body (OL := []) F sc_are_kinds hm rfl (fun _ _ _ _ _ _ us hl => match us, hl with | [_], _ => rfl) (fun _ _ _ _ _ _ us ws ks h1 h2 h3 => match us, ws, h2 with | [], [_], _ => by subst h1; rfl | [_], [], _ => absurd rfl h3) fun A outer s H E hr => have nd := nd_are_kinds; (dss_cons (ds_if (DW.dt (dw_or (dt_not (dt_val (de_call f_is_row hr (by decide) cx_pass (das_cons (de_var 0) (das_cons de_int (das_cons (de_glob (i := 6) c_MOST_KINDS) das_nil))) (len_cons (len_cons (len_cons len_nil)))))) (dw_or1 (dt_not (dt_val (de_blt (blt_all rfl) (das_cons (DN.de (dn_comp (own := [("own", 1)]) rfl nd (tok_name 1) (di_seq (de_var 0)) rfl rfl (fun s H C cl fp => (dg_name 1 nd)) (fun s H C cl fp => dts_nil) (fun s H C cl fp => (de_call f_is_row hr (by decide) passL (das_cons (de_var 1) (das_cons de_int (das_cons de_int das_nil))) (len_cons (len_cons (len_cons len_nil))))))) das_nil) bl.all))))))
      (dss_one (ds_ret (O1 := []) de_bool))
      dss_nil)
    (dss_one (ds_ret (O1 := []) (de_blt (blt_all rfl) (das_cons (DN.de (dn_comp (own := [("own", 1)]) rfl nd (tok_name 1) (di_seq (de_var 0)) rfl rfl (fun s H C cl fp => (dg_name 1 nd)) (fun s H C cl fp => dts_nil) (fun s H C cl fp => (de_and (de_call f_is_whole hr (by decide) passL (das_cons (de_idx hr.u1 (de_var 1) de_int) (das_cons de_int (das_cons (de_glob (i := 99) c_MOST_WEIGHT) das_nil))) (len_cons (len_cons (len_cons len_nil)))) (de_one (de_call f_is_whole hr (by decide) passL (das_cons (de_idx hr.u1 (de_var 1) de_int) (das_cons de_int (das_cons (de_glob (i := 20) c_MOST_PIECES) das_nil))) (len_cons (len_cons (len_cons len_nil))))))))) das_nil) bl.all))))
abbrev s_ways : Stmt := top 13
def den_ways : DenS :=
    (sSeq (sExpr (dCallF F_require (lCons (dCallF F_are_kinds (lCons (dVar 0) lNil)) (lCons (dC (.str "kinds")) lNil))))
    (sSeq (sExpr (dCallF F_require (lCons (dCallF F_is_whole (lCons (dVar 1) (lCons (dC (.int 0)) (lCons (dC (.int 999)) lNil)))) (lCons (dC (.str "load")) lNil))))
    (sSeq (sNewM [] 2 (dLst (nBin catN (dLst (nLst (lCons (dC (.int 1)) lNil))) (dLst (nBin repN (dLst (nLst (lCons (dC (.int 0)) lNil))) (dVar 1))))))
    (sSeq (sForM [] (lSeq (dVar 0)) (gTupD 2 (gsCons (gSet 3) (gsCons (gSet 4) gsNil)))
      (sSeq (sNewM [] 5 (dLst (nBin repN (dLst (nLst (lCons (dC (.int 0)) lNil))) (dBin addD (dVar 1) (dC (.int 1))))))
    (sSeq (sForM [5] (lRange1 (lCons (dBin addD (dVar 1) (dC (.int 1))) lNil)) (gSet 6)
      (sSeq (sNewM [5] 7 (dLst (nComp (lRange1 (lCons (dBin addD (dVar 4) (dC (.int 1))) lNil)) (gSet 8) [8] (dTB (dBin (cmpD fun i j => decide (i ≤ j)) (dBin mulD (dVar 3) (dVar 8)) (dVar 6))) (dBin subD (dVar 6) (dBin mulD (dVar 3) (dVar 8))))))
    (sSetI 5 (dVar 6) (dBlt sumD (lCons (dLst (nComp (lSeq (dVar 7)) (gSet 9) [9] bYes (dBin idxD (dVar 2) (dVar 9)))) lNil)))))
    (sAsgM [] (gSet 2) (dVar 5)))))
    (sRet (dBin idxD (dVar 2) (dVar 1)))))))
def F_ways : List PyData → Ev.Row → Res PyData := callF 8 den_ways
theorem sc_ways : FnScope ["kinds", "load", "found", "weight", "many", "later", "total", "some", "turn", "own"] ["kinds", "load"] (defScope s_ways) := ⟨rfl, rfl, rfl, by decide +kernel, rfl, by decide +kernel, by decide +kernel⟩
theorem nd_ways : (["kinds", "load", "found", "weight", "many", "later", "total", "some", "turn", "own"] : List Str).Nodup := by decide +kernel
theorem w_ways (bl : Blts mg) (f_are_kinds : Fn P w K mg base c 2 "are_kinds" ["value"] F_are_kinds) (f_is_whole : Fn P w K mg base c 1 "is_whole" ["value", "least", "most"] F_is_whole) (f_require : Fn P w K mg base c 3 "require" ["is_right", "name"] F_require) (c_MOST_LOAD : ∃ t, mg "MOST_LOAD" = some (.int 999 t)) {f : Addr} {fd : FuncData} {cdv : Value} (F : FunC K "ways" s_ways f fd cdv) (hm : mg "ways" = some (.ref f)) : Fn P w K mg base c 4 "ways" ["kinds", "load"] F_ways :=
  fn_body (OL := []) F sc_ways hm rfl (fun _ _ _ _ _ _ us hl => match us, hl with | [_, _], _ => rfl) (fun _ _ _ _ _ _ us ws ks h1 h2 h3 => match us, ws, h2 with | [], [_, _], _ => by subst h1; rfl | [_], [_], _ => by subst h1; rfl | [_, _], [], _ => absurd rfl h3) fun A outer s H E hr => have nd := nd_ways; (dss_cons (ds_expr (de_call f_require hr (by decide) cx_pass (das_cons (de_call f_are_kinds hr (by decide) cx_pass (das_cons (de_var 0) das_nil) (len_cons len_nil)) (das_cons de_str das_nil)) (len_cons (len_cons len_nil))))
    (dss_cons (ds_expr (de_call f_require hr (by decide) cx_pass (das_cons (de_call f_is_whole hr (by decide) cx_pass (das_cons (de_var 1) (das_cons de_int (das_cons (de_glob (i := 999) c_MOST_LOAD) das_nil))) (len_cons (len_cons (len_cons len_nil)))) (das_cons de_str das_nil)) (len_cons (len_cons len_nil))))
    (dss_cons (ds_newM [] (da_set 2 nd (DN.df (dn_cat (DN.de (dn_lst (das_cons de_int das_nil))) (DN.de (dn_rep (DN.de (dn_lst (das_cons de_int das_nil))) (de_var 1)))))))
    (dss_cons (ds_forM [] (passes_of rfl) rfl (tok_tup (toks_cons (tok_name 3) (toks_cons (tok_name 4) toks_nil))) (di_seq (de_var 0)) (dg_tup rfl (dgs_cons (dg_name 3 nd) (dgs_cons (dg_name 4 nd) dgs_nil)))
      (dss_cons (ds_newM [] (da_set 5 nd (DN.df (dn_rep (DN.de (dn_lst (das_cons de_int das_nil))) (de_bin opD_add (de_var 1) de_int)))))
    (dss_cons (ds_forM [5] (passes_of rfl) rfl (tok_name 6) (di_range1 (das_cons (de_bin opD_add (de_var 1) de_int) das_nil) bl.range) (dg_name 6 nd)
      (DSs.weak (O1 := [5]) (O2 := [7, 5]) (dss_cons (ds_newM [5] (da_comp 7 (own := [("turn", 8)]) rfl nd (tok_name 8) (di_range1 (das_cons (de_bin opD_add (de_var 4) de_int) das_nil) bl.range) rfl rfl (fun s H C cl fp => (dg_name 8 nd)) (fun s H C cl fp => (dts_one (dt_cmp (dc_cm cmD_le (de_bin opD_mul (de_var 3) (de_var 8)) (de_var 6))))) (fun s H C cl fp => (de_bin opD_sub (de_var 6) (de_bin opD_mul (de_var 3) (de_var 8))))))
    (dss_one (ds_setI 5 hr.u1 (de_blt (blt_sum rfl) (das_cons (DN.de (dn_comp (own := [("own", 9)]) rfl nd (tok_name 9) (di_seq (de_var 7)) rfl rfl (fun s H C cl fp => (dg_name 9 nd)) (fun s H C cl fp => dts_nil) (fun s H C cl fp => (de_idx hr.u1 (de_var 2) (de_var 9))))) das_nil) bl.sum) (de_var 6)))) (by decide) (by decide)))
    (dss_one (ds_setM [] 2 nd (de_var 5))))))
    (dss_one (ds_ret (O1 := []) (de_idx hr.u1 (de_var 2) (de_var 1))))))))
abbrev s_fewest : Stmt := top 14
def den_fewest : DenS :=
    (sSeq (sExpr (dCallF F_require (lCons (dCallF F_are_kinds (lCons (dVar 0) lNil)) (lCons (dC (.str "kinds")) lNil))))
    (sSeq (sExpr (dCallF F_require (lCons (dCallF F_is_whole (lCons (dVar 1) (lCons (dC (.int 0)) (lCons (dC (.int 999)) lNil)))) (lCons (dC (.str "load")) lNil))))
    (sSeq (sNewM [] 2 (dDisp1 (dC (.int 0)) (dTup (lCons (dC (.int 0)) (lCons (dTup lNil) lNil)))))
    (sSeq (sForM [] (lSeq (dVar 0)) (gTupD 2 (gsCons (gSet 3) (gsCons (gSet 4) gsNil)))
      (sSeq (sNew 5 (dC (.dict [])))
    (sSeq (sForK [5] 2 (gSet 6)
      (sForM [5] (lRange1 (lCons (dBin addD (dVar 4) (dC (.int 1))) lNil)) (gSet 7)
      (sSeq (sAsgM [5] (gSet 8) (dTup (lCons (dBin addD (dBin idxD (dBin idxD (dVar 2) (dVar 6)) (dC (.int 0))) (dVar 7)) (lCons (dBin addD (dBin idxD (dBin idxD (dVar 2) (dVar 6)) (dC (.int 1))) (dTup (lCons (dVar 7) lNil))) lNil))))
    (sSeq (sAsgM [5] (gSet 9) (dBin addD (dVar 6) (dBin mulD (dVar 3) (dVar 7))))
    (sIf (bAnd (dTB (dBin (cmpD fun i j => decide (i ≤ j)) (dVar 9) (dVar 1))) (bOr (dTB (dBin (fun x y => (inD x y).map fun b => PyData.bool (!b)) (dVar 9) (dVar 5))) (dTB (dBin (ltTy (.tup [.int, (.seq .int)])) (dVar 8) (dBin idxD (dVar 5) (dVar 9))))))
      (sSetI 5 (dVar 9) (dVar 8))
      sNext)))))
    (sAsgM [] (gSet 2) (dVar 5)))))
    (sRet (dIf (dTB (dBin (fun x y => (inD x y).map PyData.bool) (dVar 1) (dVar 2))) (dBin idxD (dBin idxD (dVar 2) (dVar 1)) (dC (.int 1))) (dC .none)))))))
def F_fewest : List PyData → Ev.Row → Res PyData := callF 8 den_fewest
theorem sc_fewest : FnScope ["kinds", "load", "found", "weight", "many", "later", "total", "turn", "key", "own"] ["kinds", "load"] (defScope s_fewest) := ⟨rfl, rfl, rfl, by decide +kernel, rfl, by decide +kernel, by decide +kernel⟩
theorem nd_fewest : (["kinds", "load", "found", "weight", "many", "later", "total", "turn", "key", "own"] : List Str).Nodup := by decide +kernel
theorem w_fewest (bl : Blts mg) (f_are_kinds : Fn P w K mg base c 2 "are_kinds" ["value"] F_are_kinds) (f_is_whole : Fn P w K mg base c 1 "is_whole" ["value", "least", "most"] F_is_whole) (f_require : Fn P w K mg base c 3 "require" ["is_right", "name"] F_require) (c_MOST_LOAD : ∃ t, mg "MOST_LOAD" = some (.int 999 t)) {f : Addr} {fd : FuncData} {cdv : Value} (F : FunC K "fewest" s_fewest f fd cdv) (hm : mg "fewest" = some (.ref f)) : Fn P w K mg base c 4 "fewest" ["kinds", "load"] F_fewest :=
  fn_body (OL := []) F sc_fewest hm rfl (fun _ _ _ _ _ _ us hl => match us, hl with | [_, _], _ => rfl) (fun _ _ _ _ _ _ us ws ks h1 h2 h3 => match us, ws, h2 with | [], [_, _], _ => by subst h1; rfl | [_], [_], _ => by subst h1; rfl | [_, _], [], _ => absurd rfl h3) fun A outer s H E hr => have nd := nd_fewest; (dss_cons (ds_expr (de_call f_require hr (by decide) cx_pass (das_cons (de_call f_are_kinds hr (by decide) cx_pass (das_cons (de_var 0) das_nil) (len_cons len_nil)) (das_cons de_str das_nil)) (len_cons (len_cons len_nil))))
    (dss_cons (ds_expr (de_call f_require hr (by decide) cx_pass (das_cons (de_call f_is_whole hr (by decide) cx_pass (das_cons (de_var 1) (das_cons de_int (das_cons (de_glob (i := 999) c_MOST_LOAD) das_nil))) (len_cons (len_cons (len_cons len_nil)))) (das_cons de_str das_nil)) (len_cons (len_cons len_nil))))
    (dss_cons (ds_newM [] (da_set 2 nd (df_disp1 de_int (de_tup (das_cons de_int (das_cons (de_tup das_nil) das_nil))))))
    (dss_cons (ds_forM [] (passes_of rfl) rfl (tok_tup (toks_cons (tok_name 3) (toks_cons (tok_name 4) toks_nil))) (di_seq (de_var 0)) (dg_tup rfl (dgs_cons (dg_name 3 nd) (dgs_cons (dg_name 4 nd) dgs_nil)))
      (dss_cons (ds_new (da_set 5 nd df_dictK))
    (dss_cons (ds_forK [5] 2 (passes_of rfl) rfl (tok_name 6) (dg_name 6 nd)
      (dss_one (ds_forM [5] (passes_of rfl) rfl (tok_name 7) (di_range1 (das_cons (de_bin opD_add (de_var 4) de_int) das_nil) bl.range) (dg_name 7 nd)
      (dss_cons (ds_setM [5] 8 nd (de_tup (das_cons (de_bin opD_add (de_idx hr.u1 (de_idx hr.u1 (de_var 2) (de_var 6)) de_int) (de_var 7)) (das_cons (de_bin opD_add (de_idx hr.u1 (de_idx hr.u1 (de_var 2) (de_var 6)) de_int) (de_tup (das_cons (de_var 7) das_nil))) das_nil))))
    (dss_cons (ds_setM [5] 9 nd (de_bin opD_add (de_var 6) (de_bin opD_mul (de_var 3) (de_var 7))))
    (dss_one (ds_if (DW.dt (dw_and (dt_cmp (dc_cm cmD_le (de_var 9) (de_var 1))) (dw_and1 (DW.dt (dw_or (dt_cmp (dc_cm (cmD_notinD hr.u65) (de_var 9) (de_var 5))) (dw_or1 (dt_cmp (dc_cm (cmD_ltT (t := (.tup [.int, (.seq .int)])) hr.units) (de_var 8) (de_idx hr.u1 (de_var 5) (de_var 9))))))))))
      (dss_one (ds_setI 5 hr.u1 (de_var 8) (de_var 9)))
      dss_nil)))))))
    (dss_one (ds_setM [] 2 nd (de_var 5))))))
    (dss_one (ds_ret (O1 := []) (de_if (dt_cmp (dc_cm (cmD_inD hr.u65) (de_var 1) (de_var 2))) (de_idx hr.u1 (de_idx hr.u1 (de_var 2) (de_var 1)) de_int) de_none)))))))
abbrev s_is_choice : Stmt := top 15
def den_is_choice : DenS :=
    (sSeq (sExpr (dCallF F_require (lCons (dCallF F_are_kinds (lCons (dVar 0) lNil)) (lCons (dC (.str "kinds")) lNil))))
    (sSeq (sExpr (dCallF F_require (lCons (dCallF F_is_whole (lCons (dVar 1) (lCons (dC (.int 0)) (lCons (dC (.int 999)) lNil)))) (lCons (dC (.str "load")) lNil))))
    (sSeq (sIf (bNot (dTB (dCallF F_are_wholes (lCons (dVar 2) (lCons (dBlt lenD (lCons (dVar 0) lNil)) (lCons (dC (.int 0)) (lCons (dC (.int 20)) lNil)))))))
      (sRet (dC (.bool false)))
      sNext)
    (sSeq (sIf (dTB (dBlt anyD (lCons (dLst (nComp (lZip (lCons (dVar 2) (lCons (dVar 0) lNil))) (gTupD 2 (gsCons (gSet 3) (gsCons (gSet 4) gsNil))) ([3] ++ ([4] ++ [])) bYes (dBin (cmpD fun i j => decide (j < i)) (dVar 3) (dBin idxD (dVar 4) (dC (.int 1)))))) lNil)))
      (sRet (dC (.bool false)))
      sNext)
    (sRet (dBin eqD (dBlt sumD (lCons (dLst (nComp (lZip (lCons (dVar 2) (lCons (dVar 0) lNil))) (gTupD 2 (gsCons (gSet 3) (gsCons (gSet 4) gsNil))) ([3] ++ ([4] ++ [])) bYes (dBin mulD (dVar 3) (dBin idxD (dVar 4) (dC (.int 0)))))) lNil)) (dVar 1)))))))
def F_is_choice : List PyData → Ev.Row → Res PyData := callF 2 den_is_choice
theorem sc_is_choice : FnScope ["kinds", "load", "value", "own", "kind"] ["kinds", "load", "value"] (defScope s_is_choice) := ⟨rfl, rfl, rfl, by decide +kernel, rfl, by decide +kernel, by decide +kernel⟩
theorem nd_is_choice : (["kinds", "load", "value", "own", "kind"] : List Str).Nodup := by decide +kernel
theorem w_is_choice (bl : Blts mg) (f_are_kinds : Fn P w K mg base c 2 "are_kinds" ["value"] F_are_kinds) (f_are_wholes : Fn P w K mg base c 2 "are_wholes" ["value", "many", "least", "most"] F_are_wholes) (f_is_whole : Fn P w K mg base c 1 "is_whole" ["value", "least", "most"] F_is_whole) (f_require : Fn P w K mg base c 3 "require" ["is_right", "name"] F_require) (c_MOST_LOAD : ∃ t, mg "MOST_LOAD" = some (.int 999 t)) (c_MOST_PIECES : ∃ t, mg "MOST_PIECES" = some (.int 20 t)) {f : Addr} {fd : FuncData} {cdv : Value} (F : FunC K "is_choice" s_is_choice f fd cdv) (hm : mg "is_choice" = some (.ref f)) : Fn P w K mg base c 4 "is_choice" ["kinds", "load", "value"] F_is_choice :=
  fn_body (OL := []) F sc_is_choice hm rfl (fun _ _ _ _ _ _ us hl => match us, hl with | [_, _, _], _ => rfl) (fun _ _ _ _ _ _ us ws ks h1 h2 h3 => match us, ws, h2 with | [], [_, _, _], _ => by subst h1; rfl | [_], [_, _], _ => by subst h1; rfl | [_, _], [_], _ => by subst h1; rfl | [_, _, _], [], _ => absurd rfl h3) fun A outer s H E hr => have nd := nd_is_choice; (dss_cons (ds_expr (de_call f_require hr (by decide) cx_pass (das_cons (de_call f_are_kinds hr (by decide) cx_pass (das_cons (de_var 0) das_nil) (len_cons len_nil)) (das_cons de_str das_nil)) (len_cons (len_cons len_nil))))
    (dss_cons (ds_expr (de_call f_require hr (by decide) cx_pass (das_cons (de_call f_is_whole hr (by decide) cx_pass (das_cons (de_var 1) (das_cons de_int (das_cons (de_glob (i := 999) c_MOST_LOAD) das_nil))) (len_cons (len_cons (len_cons len_nil)))) (das_cons de_str das_nil)) (len_cons (len_cons len_nil))))
    (dss_cons (ds_if (dt_not (dt_val (de_call f_are_wholes hr (by decide) cx_pass (das_cons (de_var 2) (das_cons (de_blt blt_len (das_cons (de_var 0) das_nil) bl.len) (das_cons de_int (das_cons (de_glob (i := 20) c_MOST_PIECES) das_nil)))) (len_cons (len_cons (len_cons (len_cons len_nil)))))))
      (dss_one (ds_ret (O1 := []) de_bool))
      dss_nil)
    (dss_cons (ds_if (dt_val (de_blt (blt_any rfl) (das_cons (DN.de (dn_comp (own := [("own", 3), ("kind", 4)]) rfl nd (tok_tup (toks_cons (tok_name 3) (toks_cons (tok_name 4) toks_nil))) (di_zip (das_cons (de_var 2) (das_cons (de_var 0) das_nil)) bl.zip) rfl rfl (fun s H C cl fp => (dg_tup rfl (dgs_cons (dg_name 3 nd) (dgs_cons (dg_name 4 nd) dgs_nil)))) (fun s H C cl fp => dts_nil) (fun s H C cl fp => (de_cmp (dc_cm cmD_gt (de_var 3) (de_idx hr.u1 (de_var 4) de_int)))))) das_nil) bl.any))
      (dss_one (ds_ret (O1 := []) de_bool))
      dss_nil)
    (dss_one (ds_ret (O1 := []) (de_cmp (dc_cm (cmD_eq hr.units) (de_blt (blt_sum rfl) (das_cons (DN.de (dn_comp (own := [("own", 3), ("kind", 4)]) rfl nd (tok_tup (toks_cons (tok_name 3) (toks_cons (tok_name 4) toks_nil))) (di_zip (das_cons (de_var 2) (das_cons (de_var 0) das_nil)) bl.zip) rfl rfl (fun s H C cl fp => (dg_tup rfl (dgs_cons (dg_name 3 nd) (dgs_cons (dg_name 4 nd) dgs_nil)))) (fun s H C cl fp => dts_nil) (fun s H C cl fp => (de_bin opD_mul (de_var 3) (de_idx hr.u1 (de_var 4) de_int))))) das_nil) bl.sum) (de_var 1)))))))))
abbrev s__law_taken : Stmt := top 17
def den__law_taken : DenS :=
    (sSeq (sIf (dTB (dBin (cmpD fun i j => decide (j < i)) (dRow 0 3) (dC (.int 0))))
      (sSeq (sAsgM [] (gSet 3) (dBin modD (dBlt intD (lCons (dRow 0 3) lNil)) (dVar 1)))
    (sSeq (sRow 0 3 (dBin fdivD (dRow 0 3) (dVar 1)))
    (sRet (dVar 3))))
      sNext)
    (sSeq (sRow 0 1 (dBin addD (dRow 0 1) (dC (.int 1))))
    (sSeq (sIf (dTB (dBin (cmpD fun i j => decide (j < i)) (dRow 0 1) (dRowLen 0)))
      (sSeq (sRow 0 2 (dBin modD (dBlt intD (lCons (dBin addD (dBin mulD (dRow 0 2) (dC (.int 48271))) (dC (.int 11))) lNil)) (dC (.int 2147483647))))
    (sRet (dBin modD (dBlt intD (lCons (dBin fdivD (dRow 0 2) (dC (.int 7))) lNil)) (dVar 1))))
      sNext)
    (sSeq (sAsgM [] (gSet 2) (dRowCell 0 (dBin subD (dRow 0 1) (dC (.int 1)))))
    (sSeq (sRow 0 2 (dBin modD (dBlt intD (lCons (dBin addD (dBin addD (dBin mulD (dRow 0 2) (dC (.int 48271))) (dBlt intD (lCons (dVar 2) lNil))) (dC (.int 11))) lNil)) (dC (.int 2147483647))))
    (sSeq (sIf (dTB (dBin (cmpD fun i j => decide (j ≤ i)) (dVar 2) (dBin powD (dC (.int 10)) (dC (.int 18)))))
      (sRow 0 3 (dBin fdivD (dBlt intD (lCons (dBin modD (dBlt intD (lCons (dVar 2) lNil)) (dBin powD (dC (.int 10)) (dC (.int 90)))) lNil)) (dVar 1)))
      sNext)
    (sRet (dBin modD (dBlt intD (lCons (dVar 2) lNil)) (dVar 1)))))))))
def F__law_taken : List PyData → Ev.Row → Res PyData := callF 2 den__law_taken
theorem sc__law_taken : FnScope ["row", "many", "cell", "found"] ["row", "many"] (defScope s__law_taken) := ⟨rfl, rfl, rfl, by decide +kernel, rfl, by decide +kernel, by decide +kernel⟩
theorem nd__law_taken : (["row", "many", "cell", "found"] : List Str).Nodup := by decide +kernel
theorem w__law_taken (bl : Blts mg)  {f : Addr} {fd : FuncData} {cdv : Value} (F : FunC K "_law_taken" s__law_taken f fd cdv) (hm : mg "_law_taken" = some (.ref f)) : Fn P w K mg base c 1 "_law_taken" ["row", "many"] F__law_taken :=
  fn_body (OL := []) F sc__law_taken hm rfl (fun _ _ _ _ _ _ us hl => match us, hl with | [_, _], _ => rfl) (fun _ _ _ _ _ _ us ws ks h1 h2 h3 => match us, ws, h2 with | [], [_, _], _ => by subst h1; rfl | [_], [_], _ => by subst h1; rfl | [_, _], [], _ => absurd rfl h3) fun A outer s H E hr => have nd := nd__law_taken; (dss_cons (ds_if (dt_cmp (dc_cm cmD_gt (de_row 0 3) de_int))
      (dss_cons (ds_setM [] 3 nd (de_bin opD_mod (de_bty blt_int (das_cons (de_row 0 3) das_nil) bl.int) (de_var 1)))
    (dss_cons (ds_row 0 3 (de_bin opD_fdiv (de_row 0 3) (de_var 1)))
    (dss_one (ds_ret (O1 := []) (de_var 3)))))
      dss_nil)
    (dss_cons (ds_row 0 1 (de_bin opD_add (de_row 0 1) de_int))
    (dss_cons (ds_if (dt_cmp (dc_cm cmD_gt (de_row 0 1) (de_rowLen 0 bl.len)))
      (dss_cons (ds_row 0 2 (de_bin opD_mod (de_bty blt_int (das_cons (de_bin opD_add (de_bin opD_mul (de_row 0 2) de_int) de_int) das_nil) bl.int) de_int))
    (dss_one (ds_ret (O1 := []) (de_bin opD_mod (de_bty blt_int (das_cons (de_bin opD_fdiv (de_row 0 2) de_int) das_nil) bl.int) (de_var 1)))))
      dss_nil)
    (dss_cons (ds_setM [] 2 nd (de_rowCell 0 (de_bin opD_sub (de_row 0 1) de_int) hns0))
    (dss_cons (ds_row 0 2 (de_bin opD_mod (de_bty blt_int (das_cons (de_bin opD_add (de_bin opD_add (de_bin opD_mul (de_row 0 2) de_int) (de_bty blt_int (das_cons (de_var 2) das_nil) bl.int)) de_int) das_nil) bl.int) de_int))
    (dss_cons (ds_if (dt_cmp (dc_cm cmD_ge (de_var 2) (de_bin opD_pow de_int de_int)))
      (dss_one (ds_row 0 3 (de_bin opD_fdiv (de_bty blt_int (das_cons (de_bin opD_mod (de_bty blt_int (das_cons (de_var 2) das_nil) bl.int) (de_bin opD_pow de_int de_int)) das_nil) bl.int) (de_var 1))))
      dss_nil)
    (dss_one (ds_ret (O1 := []) (de_bin opD_mod (de_bty blt_int (das_cons (de_var 2) das_nil) bl.int) (de_var 1))))))))))
abbrev s__law_pick : Stmt := top 18
def den__law_pick : DenS :=
    (sRet (dBin idxD (dVar 1) (dCallF F__law_taken (lCons (dVar 0) (lCons (dBlt lenD (lCons (dVar 1) lNil)) lNil)))))
def F__law_pick : List PyData → Ev.Row → Res PyData := callF 0 den__law_pick
theorem sc__law_pick : FnScope ["row", "some"] ["row", "some"] (defScope s__law_pick) := ⟨rfl, rfl, rfl, by decide +kernel, rfl, by decide +kernel, by decide +kernel⟩
theorem nd__law_pick : (["row", "some"] : List Str).Nodup := by decide +kernel
theorem w__law_pick (bl : Blts mg) (f__law_taken : Fn P w K mg base c 1 "_law_taken" ["row", "many"] F__law_taken) {f : Addr} {fd : FuncData} {cdv : Value} (F : FunC K "_law_pick" s__law_pick f fd cdv) (hm : mg "_law_pick" = some (.ref f)) : Fn P w K mg base c 2 "_law_pick" ["row", "some"] F__law_pick :=
  fn_body (OL := []) F sc__law_pick hm rfl (fun _ _ _ _ _ _ us hl => match us, hl with | [_, _], _ => rfl) (fun _ _ _ _ _ _ us ws ks h1 h2 h3 => match us, ws, h2 with | [], [_, _], _ => by subst h1; rfl | [_], [_], _ => by subst h1; rfl | [_, _], [], _ => absurd rfl h3) fun A outer s H E hr => have nd := nd__law_pick; (dss_one (ds_ret (O1 := []) (de_idx hr.u1 (de_var 1) (de_call f__law_taken hr (by decide) cx_pass (das_cons (de_var 0) (das_cons (de_blt blt_len (das_cons (de_var 1) das_nil) bl.len) das_nil)) (len_cons (len_cons len_nil))))))
abbrev s__law_alike : Stmt := top 20
def den__law_alike (F__law_alike : List PyData → Ev.Row → Res PyData) : DenS :=
    (sSeq (sIf (dTB (dUn (isiD "tuple") (dVar 1)))
      (sSeq (sIf (bOr (bNot (dTB (dUn (isiD "tuple") (dVar 0)))) (dTB (dBin neD (dBlt lenD (lCons (dVar 0) lNil)) (dBlt lenD (lCons (dVar 1) lNil)))))
      (sRet (dC (.bool false)))
      sNext)
    (sRet (dBin eqD (dLst (nComp (lRange1 (lCons (dBlt lenD (lCons (dVar 1) lNil)) lNil)) (gSet 2) [2] (bNot (dTB (dCallF F__law_alike (lCons (dBin idxD (dVar 0) (dVar 2)) (lCons (dBin idxD (dVar 1) (dVar 2)) lNil))))) (dVar 2))) (dLst (nLst lNil)))))
      sNext)
    (sSeq (sIf (bOr (dTB (dBin isND (dVar 1) (dC .none))) (dTB (dUn (isiD "str") (dVar 1))))
      (sRet (dAnd (dBin eqD (dVar 0) (dVar 1)) (dBin eqD (dUn (isiD "str") (dVar 0)) (dUn (isiD "str") (dVar 1)))))
      sNext)
    (sRet (dAnd (dUn (isiD "int") (dVar 0)) (dAnd (dBin eqD (dUn (isiD "bool") (dVar 0)) (dUn (isiD "bool") (dVar 1))) (dBin eqD (dVar 0) (dVar 1)))))))
def F__law_alike : Nat → List PyData → Ev.Row → Res PyData
  | 0 => fun _ _ => .stuck
  | n + 1 => callF 1 (den__law_alike (F__law_alike n))
theorem sc__law_alike : FnScope ["found", "due", "at"] ["found", "due"] (defScope s__law_alike) := ⟨rfl, rfl, rfl, by decide +kernel, rfl, by decide +kernel, by decide +kernel⟩
theorem nd__law_alike : (["found", "due", "at"] : List Str).Nodup := by decide +kernel
theorem w__law_alike (bl : Blts mg)  {f : Addr} {fd : FuncData} {cdv : Value} (F : FunC K "_law_alike" s__law_alike f fd cdv) (hm : mg "_law_alike" = some (.ref f)) : ∀ n : Nat, n ≤ 100 → Fn P w K mg base c n "_law_alike" ["found", "due"] (F__law_alike n)
  | 0, _ => fn_none F hm (fun _ _ _ _ _ _ us hl => match us, hl with | [_, _], _ => rfl) (fun _ _ _ _ _ _ us ws ks h1 h2 h3 => match us, ws, h2 with | [], [_, _], _ => by subst h1; rfl | [_], [_], _ => by subst h1; rfl | [_, _], [], _ => absurd rfl h3)
  | n + 1, hn => by
    have f__law_alike := w__law_alike bl  F hm n (by omega)
    exact fn_body (OL := []) F sc__law_alike hm rfl (fun _ _ _ _ _ _ us hl => match us, hl with | [_, _], _ => rfl) (fun _ _ _ _ _ _ us ws ks h1 h2 h3 => match us, ws, h2 with | [], [_, _], _ => by subst h1; rfl | [_], [_], _ => by subst h1; rfl | [_, _], [], _ => absurd rfl h3) fun A outer s H E hr => have nd := nd__law_alike; (dss_cons (ds_if (dt_val (de_isi (T := "tuple") (de_var 1) bl.isinstance bl.tuple))
      (dss_cons (ds_if (DW.dt (dw_or (dt_not (dt_val (de_isi (T := "tuple") (de_var 0) bl.isinstance bl.tuple))) (dw_or1 (dt_cmp (dc_cm (cmD_ne hr.units) (de_blt blt_len (das_cons (de_var 0) das_nil) bl.len) (de_blt blt_len (das_cons (de_var 1) das_nil) bl.len))))))
      (dss_one (ds_ret (O1 := []) de_bool))
      dss_nil)
    (dss_one (ds_ret (O1 := []) (de_cmp (dc_cm (cmD_eq hr.units) (DN.de (dn_comp (own := [("at", 2)]) rfl nd (tok_name 2) (di_range1 (das_cons (de_blt blt_len (das_cons (de_var 1) das_nil) bl.len) das_nil) bl.range) rfl rfl (fun s H C cl fp => (dg_name 2 nd)) (fun s H C cl fp => (dts_one (dt_not (dt_val (de_call f__law_alike hr (Nat.le_refl _) passL (das_cons (de_idx hr.u1 (de_var 0) (de_var 2)) (das_cons (de_idx hr.u1 (de_var 1) (de_var 2)) das_nil)) (len_cons (len_cons len_nil))))))) (fun s H C cl fp => (de_var 2)))) (DN.de (dn_lst das_nil)))))))
      dss_nil)
    (dss_cons (ds_if (DW.dt (dw_or (dt_cmp (dc_cm cmD_isN (de_var 1) de_none)) (dw_or1 (dt_val (de_isi (T := "str") (de_var 1) bl.isinstance bl.str)))))
      (dss_one (ds_ret (O1 := []) (de_and (de_cmp (dc_cm (cmD_eq hr.units) (de_var 0) (de_var 1))) (de_one (de_cmp (dc_cm (cmD_eq hr.units) (de_isi (T := "str") (de_var 0) bl.isinstance bl.str) (de_isi (T := "str") (de_var 1) bl.isinstance bl.str)))))))
      dss_nil)
    (dss_one (ds_ret (O1 := []) (de_and (de_isi (T := "int") (de_var 0) bl.isinstance bl.int) (de_and (de_cmp (dc_cm (cmD_eq hr.units) (de_isi (T := "bool") (de_var 0) bl.isinstance bl.bool) (de_isi (T := "bool") (de_var 1) bl.isinstance bl.bool))) (de_one (de_cmp (dc_cm (cmD_eq hr.units) (de_var 0) (de_var 1))))))))))
abbrev s__law_choices : Stmt := top 21
def den__law_choices : DenS :=
    (sSeq (sNewM [] 1 (dLst (nLst (lCons (dTup lNil) lNil))))
    (sSeq (sForM [1] (lSeq (dVar 0)) (gTupD 2 (gsCons (gSet 2) (gsCons (gSet 3) gsNil)))
      (sNew 1 (dLst (nComp2 (lSeq (dVar 1)) (gMore [4, 5] (gSet 4)) [4, 5] bYes (lRange1 (lCons (dBin addD (dVar 3) (dC (.int 1))) lNil)) (gSet 5) [5] bYes (dBin addD (dVar 4) (dTup (lCons (dVar 5) lNil)))))))
    (sRet (dVar 1))))
def F__law_choices : List PyData → Ev.Row → Res PyData := callF 5 den__law_choices
theorem sc__law_choices : FnScope ["kinds", "found", "weight", "many", "own", "turn"] ["kinds"] (defScope s__law_choices) := ⟨rfl, rfl, rfl, by decide +kernel, rfl, by decide +kernel, by decide +kernel⟩
theorem nd__law_choices : (["kinds", "found", "weight", "many", "own", "turn"] : List Str).Nodup := by decide +kernel
theorem w__law_choices (bl : Blts mg)  {f : Addr} {fd : FuncData} {cdv : Value} (F : FunC K "_law_choices" s__law_choices f fd cdv) (hm : mg "_law_choices" = some (.ref f)) : Fn P w K mg base c 1 "_law_choices" ["kinds"] F__law_choices :=
  fn_body (OL := []) F sc__law_choices hm rfl (fun _ _ _ _ _ _ us hl => match us, hl with | [_], _ => rfl) (fun _ _ _ _ _ _ us ws ks h1 h2 h3 => match us, ws, h2 with | [], [_], _ => by subst h1; rfl | [_], [], _ => absurd rfl h3) fun A outer s H E hr => have nd := nd__law_choices; (dss_cons (ds_newM [] (da_set 1 nd (DN.df (dn_lst (das_cons (de_tup das_nil) das_nil)))))
    (dss_cons (ds_forM [1] (passes_of rfl) rfl (tok_tup (toks_cons (tok_name 2) (toks_cons (tok_name 3) toks_nil))) (di_seq (de_var 0)) (dg_tup rfl (dgs_cons (dg_name 2 nd) (dgs_cons (dg_name 3 nd) dgs_nil)))
      (dss_one (ds_new (da_comp2 1 (own := [("own", 4), ("turn", 5)]) rfl nd (tok_more (us := [4, 5]) (tok_name 4) (by decide)) (tok_name 5) (di_seq (de_var 1)) rfl rfl (by decide) (fun s H C cl fp => (DG.more (dg_name 4 nd) (by decide))) (fun s H C cl fp => dts_nil) (fun s H C cl fp => (di_range1 (das_cons (de_bin opD_add (de_var 3) de_int) das_nil) bl.range)) (fun s H C cl fp => (dg_name 5 nd)) (fun s H C cl fp => dts_nil) (fun s H C cl fp => (de_bin opD_add (de_var 4) (de_tup (das_cons (de_var 5) das_nil))))))))
    (dss_one (ds_ret (O1 := [1]) (de_var 1)))))
abbrev s__law_weight : Stmt := top 22
def den__law_weight : DenS :=
    (sRet (dBlt sumD (lCons (dLst (nComp (lRange1 (lCons (dBlt lenD (lCons (dVar 1) lNil)) lNil)) (gSet 2) [2] bYes (dBin mulD (dBin idxD (dVar 1) (dVar 2)) (dBin idxD (dBin idxD (dVar 0) (dVar 2)) (dC (.int 0)))))) lNil)))
def F__law_weight : List PyData → Ev.Row → Res PyData := callF 1 den__law_weight
theorem sc__law_weight : FnScope ["kinds", "own", "at"] ["kinds", "own"] (defScope s__law_weight) := ⟨rfl, rfl, rfl, by decide +kernel, rfl, by decide +kernel, by decide +kernel⟩
theorem nd__law_weight : (["kinds", "own", "at"] : List Str).Nodup := by decide +kernel
theorem w__law_weight (bl : Blts mg)  {f : Addr} {fd : FuncData} {cdv : Value} (F : FunC K "_law_weight" s__law_weight f fd cdv) (hm : mg "_law_weight" = some (.ref f)) : Fn P w K mg base c 1 "_law_weight" ["kinds", "own"] F__law_weight :=
  fn_body (OL := []) F sc__law_weight hm rfl (fun _ _ _ _ _ _ us hl => match us, hl with | [_, _], _ => rfl) (fun _ _ _ _ _ _ us ws ks h1 h2 h3 => match us, ws, h2 with | [], [_, _], _ => by subst h1; rfl | [_], [_], _ => by subst h1; rfl | [_, _], [], _ => absurd rfl h3) fun A outer s H E hr => have nd := nd__law_weight; (dss_one (ds_ret (O1 := []) (de_blt (blt_sum rfl) (das_cons (DN.de (dn_comp (own := [("at", 2)]) rfl nd (tok_name 2) (di_range1 (das_cons (de_blt blt_len (das_cons (de_var 1) das_nil) bl.len) das_nil) bl.range) rfl rfl (fun s H C cl fp => (dg_name 2 nd)) (fun s H C cl fp => dts_nil) (fun s H C cl fp => (de_bin opD_mul (de_idx hr.u1 (de_var 1) (de_var 2)) (de_idx hr.u1 (de_idx hr.u1 (de_var 0) (de_var 2)) de_int))))) das_nil) bl.sum)))
end
end K25

namespace K25
open PySem PySem.Spec PyProof.Rows L2 Ev LamX
section
variable {P : Program} {w : World} {K : PySem.W.Frag} {mg : Str → Option Value} {base : Heap} {c : Cfg}
abbrev s__law_refused : Stmt := top 19
abbrev s__law_case : Stmt := top 23
def den__law_case_1 : DenS :=
    (sIf (dTB (dBin notBD (dCallF F_is_choice (lApp (lCons (dVar 2) (lCons (dVar 10) lNil)) (lCons (dBlt tupleD (lCons (dVar 15) lNil)) lNil))) (dBin (fun x y => (inSq x y).map PyData.bool) (dBlt tupleD (lCons (dVar 15) lNil)) (dVar 11))))
      (sRet (dC (.bool false)))
      sNext)
def den__law_case_2 : DenS :=
    (sSeq (sSetI 15 (dVar 16) (dBlt max2D (lCons (dC (.int 0)) (lCons (dBin subD (dBin addD (dBin idxD (dVar 15) (dVar 16)) (dCallF F__law_taken (lCons (dVar 0) (lCons (dC (.int 3)) lNil)))) (dC (.int 1))) lNil))))
    den__law_case_1)
def den__law_case_3 : DenS :=
    (sSeq (sAsg (gSet 16) (dCallF F__law_taken (lCons (dVar 0) (lCons (dBlt lenD (lCons (dVar 15) lNil)) lNil))))
    den__law_case_2)
def den__law_case_4 : DenS :=
    (sSeq (sNewM [] 15 (dLst (nBlt listD (lCons (dCallF F__law_pick (lCons (dVar 0) (lCons (dLst (nBin catN (dVar 11) (dLst (nLst (lCons (dCallF F__law_pick (lCons (dVar 0) (lCons (dVar 3) lNil))) lNil))))) lNil))) lNil))))
    den__law_case_3)
def den__law_case_5 : DenS :=
    (sForM [] (lRange1 (lCons (dC (.int 3)) lNil)) (gSet 14)
      den__law_case_4)
def den__law_case_6 : DenS :=
    (sSeq (sIf (bOr (bNot (dTB (dCallF (F__law_alike 8) (lCons (dVar 13) (lCons (dVar 12) lNil))))) (bAnd (dTB (dBin notND (dVar 13) (dC .none))) (bNot (dTB (dCallF F_is_choice (lCons (dVar 2) (lCons (dVar 10) (lCons (dVar 13) lNil))))))))
      (sRet (dC (.bool false)))
      sNext)
    den__law_case_5)
def den__law_case_7 : DenS :=
    (sSeq (sAsgM [] (gSet 13) (dCallF F_fewest (lApp (lCons (dVar 2) lNil) (lCons (dVar 10) lNil))))
    den__law_case_6)
def den__law_case_8 : DenS :=
    (sSeq (sAsgM [] (gSet 12) (dIf (dTB (dBin neD (dVar 11) (dLst (nLst lNil)))) (dBin idxD (dBlt (minTy (.tup [.int, (.seq .int)])) (lCons (dLst (nComp (lSeq (dVar 11)) (gSet 15) [15] bYes (dTup (lCons (dBlt sumD (lCons (dVar 15) lNil)) (lCons (dVar 15) lNil))))) lNil)) (dC (.int 1))) (dC .none)))
    den__law_case_7)
def den__law_case_9 : DenS :=
    (sSeq (sIf (bNot (dTB (dCallF (F__law_alike 8) (lCons (dCallF F_ways (lCons (dVar 2) (lCons (dVar 10) lNil))) (lCons (dBlt lenD (lCons (dVar 11) lNil)) lNil)))))
      (sRet (dC (.bool false)))
      sNext)
    den__law_case_8)
def den__law_case_10 : DenS :=
    (sSeq (sNewM [] 11 (dLst (nComp (lSeq (dVar 3)) (gSet 15) [15] (dTB (dBin eqD (dCallF F__law_weight (lCons (dVar 2) (lCons (dVar 15) lNil))) (dVar 10))) (dVar 15))))
    den__law_case_9)
def den__law_case_11 : DenS :=
    (sSeq (sAsgM [] (gSet 10) (dIf (dTB (dBin (cmpD fun i j => decide (i < j)) (dVar 10) (dC (.int 1000)))) (dVar 10) (dC (.int 999))))
    den__law_case_10)
def den__law_case_12 : DenS :=
    (sSeq (sAsgM [] (gSet 10) (dCallF F__law_pick (lCons (dVar 0) (lCons (dLst (nLst (lCons (dC (.int 0)) (lCons (dCallF F__law_weight (lCons (dVar 2) (lCons (dCallF F__law_pick (lCons (dVar 0) (lCons (dVar 3) lNil))) lNil))) (lCons (dCallF F__law_taken (lCons (dVar 0) (lCons (dC (.int 60)) lNil))) lNil))))) lNil))))
    den__law_case_11)
def den__law_case_13 : DenS :=
    (sRet (dAnd (dBin eqD (dVar 6) (dLst (nBin repN (dLst (nLst (lCons (dC (.bool false)) lNil))) (dC (.int 5))))) (dBin eqD (dVar 9) (dLst (nLst (lCons (dC (.str "kinds")) (lCons (dC (.str "load")) (lCons (dC (.str "kinds")) (lCons (dC (.str "load")) (lCons (dC (.str "kinds")) (lCons (dC (.str "load")) lNil)))))))))))
def den__law_case_14 : DenS :=
    (sSeq (sNewM [6] 9 (dLst (nLst (lCons (dRefused (dCallF F_ways (lCons (dVar 7) (lCons (dVar 8) lNil)))) (lCons (dRefused (dCallF F_ways (lCons (dVar 2) (lCons (dVar 8) lNil)))) (lCons (dRefused (dCallF F_fewest (lCons (dVar 7) (lCons (dVar 8) lNil)))) (lCons (dRefused (dCallF F_fewest (lCons (dVar 2) (lCons (dVar 8) lNil)))) (lCons (dRefused (dCallF F_is_choice (lCons (dVar 7) (lCons (dC (.int 1)) (lCons (dTup lNil) lNil))))) (lCons (dRefused (dCallF F_is_choice (lCons (dVar 2) (lCons (dVar 8) (lCons (dTup lNil) lNil))))) lNil)))))))))
    den__law_case_13)
def den__law_case_15 : DenS :=
    (sSeq (sAsgM [6] (gSet 8) (dCallF F__law_pick (lCons (dVar 0) (lCons (dLst (nLst (lCons (dC .none) (lCons (dUn negD (dC (.int 1))) (lCons (dC (.int 1000)) (lCons (dC (.bool true)) lNil)))))) lNil))))
    den__law_case_14)
def den__law_case_16 : DenS :=
    (sSeq (sAsgM [6] (gSet 7) (dCallF F__law_pick (lCons (dVar 0) (lCons (dLst (nLst (lCons (dC .none) (lCons (dTup lNil) (lCons (dTup (lCons (dTup (lCons (dC (.int 0)) (lCons (dC (.int 1)) lNil))) lNil)) (lCons (dTup (lCons (dTup (lCons (dC (.int 100)) (lCons (dC (.int 1)) lNil))) lNil)) (lCons (dTup (lCons (dTup (lCons (dC (.int 1)) (lCons (dC (.int 21)) lNil))) lNil)) (lCons (dTup (lCons (dTup (lCons (dC (.int 1)) (lCons (dUn negD (dC (.int 1))) lNil))) lNil)) (lCons (dTup (lCons (dTup (lCons (dC (.int 1)) lNil)) lNil)) (lCons (dLst (nLst (lCons (dTup (lCons (dC (.int 1)) (lCons (dC (.int 1)) lNil))) lNil))) (lCons (dBin mulD (dTup (lCons (dTup (lCons (dC (.int 1)) (lCons (dC (.int 1)) lNil))) lNil)) (dC (.int 7))) (lCons (dTup (lCons (dTup (lCons (dC (.int 1)) (lCons (dC (.bool true)) lNil))) lNil)) lNil)))))))))))) lNil))))
    den__law_case_15)
def den__law_case_17 : DenS :=
    (sSeq (sNewM [] 6 (dLst (nComp (lSeq (dTup (lCons (dC .none) (lCons (dLst (nBlt listD (lCons (dVar 5) lNil))) (lCons (dBin addD (dVar 5) (dTup (lCons (dC (.int 0)) lNil))) (lCons (dBin mulD (dTup (lCons (dUn negD (dC (.int 1))) lNil)) (dBlt lenD (lCons (dVar 2) lNil))) (lCons (dBin mulD (dTup (lCons (dC (.bool false)) lNil)) (dBlt lenD (lCons (dVar 2) lNil))) lNil))))))) (gSet 17) [17] bYes (dCallF F_is_choice (lCons (dVar 2) (lCons (dC (.int 0)) (lCons (dVar 17) lNil)))))))
    den__law_case_16)
def den__law_case_18 : DenS :=
    (sSeq (sAsgM [] (gSet 5) (dBin mulD (dTup (lCons (dC (.int 0)) lNil)) (dBlt lenD (lCons (dVar 2) lNil))))
    den__law_case_17)
def den__law_case_19 : DenS :=
    (sSeq (sForM [] (lRange1 (lCons (dC (.int 3)) lNil)) (gSet 4)
      den__law_case_12)
    den__law_case_18)
def den__law_case_20 : DenS :=
    (sSeq (sAsgM [] (gSet 3) (dCallF F__law_choices (lCons (dVar 2) lNil)))
    den__law_case_19)
def den__law_case_21 : DenS :=
    (sSeq (sAsgM [] (gSet 2) (dBlt tupleD (lCons (dLst (nComp (lRange1 (lCons (dBin addD (dC (.int 1)) (dCallF F__law_taken (lCons (dVar 0) (lCons (dC (.int 4)) lNil)))) lNil)) (gSet 16) [16] bYes (dTup (lCons (dBin addD (dC (.int 1)) (dCallF F__law_taken (lCons (dVar 0) (lCons (dVar 1) lNil)))) (lCons (dCallF F__law_taken (lCons (dVar 0) (lCons (dCallF F__law_pick (lCons (dVar 0) (lCons (dLst (nLst (lCons (dC (.int 2)) (lCons (dC (.int 6)) lNil)))) lNil))) lNil))) lNil))))) lNil)))
    den__law_case_20)
def den__law_case : DenS :=
    (sSeq (sAsgM [] (gSet 1) (dCallF F__law_pick (lCons (dVar 0) (lCons (dLst (nLst (lCons (dC (.int 3)) (lCons (dC (.int 10)) (lCons (dC (.int 99)) lNil))))) lNil))))
    den__law_case_21)
def F__law_case : List PyData → Ev.Row → Res PyData := callF 17 den__law_case
theorem sc__law_case : FnScope ["row", "heavy", "kinds", "every", "turn", "nothing", "wrong", "odd", "bad", "told", "load", "some", "due", "found", "again", "own", "at", "value"] ["row"] (defScope s__law_case) := ⟨rfl, rfl, rfl, by decide +kernel, rfl, by decide +kernel, by decide +kernel⟩
theorem nd__law_case : (["row", "heavy", "kinds", "every", "turn", "nothing", "wrong", "odd", "bad", "told", "load", "some", "due", "found", "again", "own", "at", "value"] : List Str).Nodup := by decide +kernel
theorem w__law_case (bl : Blts mg) (f__law_alike : Fn P w K mg base c 8 "_law_alike" ["found", "due"] (F__law_alike 8)) (f__law_choices : Fn P w K mg base c 1 "_law_choices" ["kinds"] F__law_choices) (f__law_pick : Fn P w K mg base c 2 "_law_pick" ["row", "some"] F__law_pick) (f__law_taken : Fn P w K mg base c 1 "_law_taken" ["row", "many"] F__law_taken) (f__law_weight : Fn P w K mg base c 1 "_law_weight" ["kinds", "own"] F__law_weight) (f_fewest : Fn P w K mg base c 4 "fewest" ["kinds", "load"] F_fewest) (f_is_choice : Fn P w K mg base c 4 "is_choice" ["kinds", "load", "value"] F_is_choice) (f_ways : Fn P w K mg base c 4 "ways" ["kinds", "load"] F_ways) {cc PP : Addr} (B : Bad P w K mg base c.CB) (rf : RefK K mg s__law_refused) (TB : LamX.TabB base mg cc PP) (hT : c.T = [(PP, (("_law_case" : Str) ++ ".<locals>.") ++ "<lambda>")]) {f : Addr} {fd : FuncData} (F : FunC K "_law_case" s__law_case f fd (.ref cc)) (hm : mg "_law_case" = some (.ref f)) : Fn P w K mg base c 9 "_law_case" ["row"] F__law_case :=
  fn_body (OL := []) F sc__law_case hm rfl (fun _ _ _ _ _ _ us hl => match us, hl with | [_], _ => rfl) (fun _ _ _ _ _ _ us ws ks h1 h2 h3 => match us, ws, h2 with | [], [_], _ => by subst h1; rfl | [_], [], _ => absurd rfl h3) fun A outer s H E hr => have nd := nd__law_case; (dss_cons (ds_setM [] 1 nd (de_call f__law_pick hr (by decide) cx_pass (das_cons (de_var 0) (das_cons (DN.de (dn_lst (das_cons de_int (das_cons de_int (das_cons de_int das_nil))))) das_nil)) (len_cons (len_cons len_nil))))
    (dss_cons (ds_setM [] 2 nd (de_bty blt_tuple (das_cons (DN.de (dn_comp (own := [("at", 16)]) rfl nd (tok_name 16) (di_range1 (das_cons (de_bin opD_add de_int (de_call f__law_taken hr (by decide) cx_pass (das_cons (de_var 0) (das_cons de_int das_nil)) (len_cons (len_cons len_nil)))) das_nil) bl.range) rfl rfl (fun s H C cl fp => (dg_name 16 nd)) (fun s H C cl fp => dts_nil) (fun s H C cl fp => (de_tup (das_cons (de_bin opD_add de_int (de_call f__law_taken hr (by decide) passL (das_cons (de_var 0) (das_cons (de_var 1) das_nil)) (len_cons (len_cons len_nil)))) (das_cons (de_call f__law_taken hr (by decide) passL (das_cons (de_var 0) (das_cons (de_call f__law_pick hr (by decide) passL (das_cons (de_var 0) (das_cons (DN.de (dn_lst (das_cons de_int (das_cons de_int das_nil)))) das_nil)) (len_cons (len_cons len_nil))) das_nil)) (len_cons (len_cons len_nil))) das_nil)))))) das_nil) bl.tuple))
    (dss_cons (ds_setM [] 3 nd (de_call f__law_choices hr (by decide) cx_pass (das_cons (de_var 2) das_nil) (len_cons len_nil)))
    (dss_cons (ds_forM [] (passes_of rfl) rfl (tok_name 4) (di_range1 (das_cons de_int das_nil) bl.range) (dg_name 4 nd)
      (dss_cons (ds_setM [] 10 nd (de_call f__law_pick hr (by decide) cx_pass (das_cons (de_var 0) (das_cons (DN.de (dn_lst (das_cons de_int (das_cons (de_call f__law_weight hr (by decide) cx_pass (das_cons (de_var 2) (das_cons (de_call f__law_pick hr (by decide) cx_pass (das_cons (de_var 0) (das_cons (de_var 3) das_nil)) (len_cons (len_cons len_nil))) das_nil)) (len_cons (len_cons len_nil))) (das_cons (de_call f__law_taken hr (by decide) cx_pass (das_cons (de_var 0) (das_cons de_int das_nil)) (len_cons (len_cons len_nil))) das_nil))))) das_nil)) (len_cons (len_cons len_nil))))
    (dss_cons (ds_setM [] 10 nd (de_if (dt_cmp (dc_cm cmD_lt (de_var 10) de_int)) (de_var 10) de_int))
    (dss_cons (ds_newM [] (da_comp 11 (own := [("own", 15)]) rfl nd (tok_name 15) (di_seq (de_var 3)) rfl rfl (fun s H C cl fp => (dg_name 15 nd)) (fun s H C cl fp => (dts_one (dt_cmp (dc_cm (cmD_eq hr.units) (de_call f__law_weight hr (by decide) passL (das_cons (de_var 2) (das_cons (de_var 15) das_nil)) (len_cons (len_cons len_nil))) (de_var 10))))) (fun s H C cl fp => (de_var 15))))
    (dss_cons (ds_if (dt_not (dt_val (de_call f__law_alike hr (by decide) cx_pass (das_cons (de_call f_ways hr (by decide) cx_pass (das_cons (de_var 2) (das_cons (de_var 10) das_nil)) (len_cons (len_cons len_nil))) (das_cons (de_blt blt_len (das_cons (de_var 11) das_nil) bl.len) das_nil)) (len_cons (len_cons len_nil)))))
      (dss_one (ds_ret (O1 := [11]) de_bool))
      dss_nil)
    (dss_cons (ds_setM [] 12 nd (de_if (dt_cmp (dc_cm (cmD_ne hr.units) (de_var 11) (DN.de (dn_lst das_nil)))) (de_idx hr.u1 (de_blt (blt_minTy (t := (.tup [.int, (.seq .int)])) rfl hr.units) (das_cons (DN.de (dn_comp (own := [("own", 15)]) rfl nd (tok_name 15) (di_seq (de_var 11)) rfl rfl (fun s H C cl fp => (dg_name 15 nd)) (fun s H C cl fp => dts_nil) (fun s H C cl fp => (de_tup (das_cons (de_blt (blt_sum rfl) (das_cons (de_var 15) das_nil) bl.sum) (das_cons (de_var 15) das_nil)))))) das_nil) bl.min) de_int) de_none))
    (dss_cons (ds_setM [] 13 nd (de_callK f_fewest hr (by decide) cx_pass (das_cons (de_var 2) das_nil) (dk_cons (de_var 10) dk_nil) (len_cons len_nil) (len_cons len_nil) rfl rfl (by decide)))
    (dss_cons (ds_if (DW.dt (dw_or (dt_not (dt_val (de_call f__law_alike hr (by decide) cx_pass (das_cons (de_var 13) (das_cons (de_var 12) das_nil)) (len_cons (len_cons len_nil))))) (dw_or1 (DW.dt (dw_and (dt_cmp (dc_cm cmD_notN (de_var 13) de_none)) (dw_and1 (dt_not (dt_val (de_call f_is_choice hr (by decide) cx_pass (das_cons (de_var 2) (das_cons (de_var 10) (das_cons (de_var 13) das_nil))) (len_cons (len_cons (len_cons len_nil))))))))))))
      (dss_one (ds_ret (O1 := []) de_bool))
      dss_nil)
    (dss_one (ds_forM [] (passes_of rfl) rfl (tok_name 14) (di_range1 (das_cons de_int das_nil) bl.range) (dg_name 14 nd)
      (DSs.weak (O1 := []) (O2 := [15]) (dss_cons (ds_newM [] (da_set 15 nd (DN.df (dn_bty blt_list (das_cons (de_call f__law_pick hr (by decide) cx_pass (das_cons (de_var 0) (das_cons (DN.de (dn_cat (de_var 11) (DN.de (dn_lst (das_cons (de_call f__law_pick hr (by decide) cx_pass (das_cons (de_var 0) (das_cons (de_var 3) das_nil)) (len_cons (len_cons len_nil))) das_nil))))) das_nil)) (len_cons (len_cons len_nil))) das_nil) bl.list))))
    (dss_cons (ds_set 16 nd (de_call f__law_taken hr (by decide) cx_pass (das_cons (de_var 0) (das_cons (de_blt blt_len (das_cons (de_var 15) das_nil) bl.len) das_nil)) (len_cons (len_cons len_nil))))
    (dss_cons (ds_setI 15 hr.u1 (de_blt (blt_max2 rfl) (das_cons de_int (das_cons (de_bin opD_sub (de_bin opD_add (de_idx hr.u1 (de_var 15) (de_var 16)) (de_call f__law_taken hr (by decide) cx_pass (das_cons (de_var 0) (das_cons de_int das_nil)) (len_cons (len_cons len_nil)))) de_int) das_nil)) bl.max) (de_var 16))
    (dss_one (ds_if (dt_cmp (dc_cm cmD_notB (de_callK f_is_choice hr (by decide) cx_pass (das_cons (de_var 2) (das_cons (de_var 10) das_nil)) (dk_cons (de_bty blt_tuple (das_cons (de_var 15) das_nil) bl.tuple) dk_nil) (len_cons (len_cons len_nil)) (len_cons len_nil) rfl rfl (by decide)) (de_cmp (dc_cm (cmD_in hr.u65) (de_bty blt_tuple (das_cons (de_var 15) das_nil) bl.tuple) (de_var 11)))))
      (dss_one (ds_ret (O1 := [15]) de_bool))
      dss_nil))))) (by decide) (by decide))))))))))))
    (dss_cons (ds_setM [] 5 nd (de_bin opD_mul (de_tup (das_cons de_int das_nil)) (de_blt blt_len (das_cons (de_var 2) das_nil) bl.len)))
    (dss_cons (ds_newM [] (da_comp 6 (own := [("value", 17)]) rfl nd (tok_name 17) (di_seq (de_tup (das_cons de_none (das_cons (DN.de (dn_bty blt_list (das_cons (de_var 5) das_nil) bl.list)) (das_cons (de_bin opD_add (de_var 5) (de_tup (das_cons de_int das_nil))) (das_cons (de_bin opD_mul (de_tup (das_cons (de_neg de_int) das_nil)) (de_blt blt_len (das_cons (de_var 2) das_nil) bl.len)) (das_cons (de_bin opD_mul (de_tup (das_cons de_bool das_nil)) (de_blt blt_len (das_cons (de_var 2) das_nil) bl.len)) das_nil))))))) rfl rfl (fun s H C cl fp => (dg_name 17 nd)) (fun s H C cl fp => dts_nil) (fun s H C cl fp => (de_call f_is_choice hr (by decide) passL (das_cons (de_var 2) (das_cons de_int (das_cons (de_var 17) das_nil))) (len_cons (len_cons (len_cons len_nil)))))))
    (dss_cons (ds_setM [6] 7 nd (de_call f__law_pick hr (by decide) cx_pass (das_cons (de_var 0) (das_cons (DN.de (dn_lst (das_cons de_none (das_cons (de_tup das_nil) (das_cons (de_tup (das_cons (de_tup (das_cons de_int (das_cons de_int das_nil))) das_nil)) (das_cons (de_tup (das_cons (de_tup (das_cons de_int (das_cons de_int das_nil))) das_nil)) (das_cons (de_tup (das_cons (de_tup (das_cons de_int (das_cons de_int das_nil))) das_nil)) (das_cons (de_tup (das_cons (de_tup (das_cons de_int (das_cons (de_neg de_int) das_nil))) das_nil)) (das_cons (de_tup (das_cons (de_tup (das_cons de_int das_nil)) das_nil)) (das_cons (DN.de (dn_lst (das_cons (de_tup (das_cons de_int (das_cons de_int das_nil))) das_nil))) (das_cons (de_bin opD_mul (de_tup (das_cons (de_tup (das_cons de_int (das_cons de_int das_nil))) das_nil)) de_int) (das_cons (de_tup (das_cons (de_tup (das_cons de_int (das_cons de_bool das_nil))) das_nil)) das_nil)))))))))))) das_nil)) (len_cons (len_cons len_nil))))
    (dss_cons (ds_setM [6] 8 nd (de_call f__law_pick hr (by decide) cx_pass (das_cons (de_var 0) (das_cons (DN.de (dn_lst (das_cons de_none (das_cons (de_neg de_int) (das_cons de_int (das_cons de_bool das_nil)))))) das_nil)) (len_cons (len_cons len_nil))))
    (dss_cons (ds_newM [6] (da_set 9 nd (DN.df (dn_lst (das_cons (de_ref 4 B rf TB rfl hT hr (by decide) (fun A outer s H E f c' hr => (de_call f_ways hr (by decide) lam_pass (das_cons (de_var 7) (das_cons (de_var 8) das_nil)) (len_cons (len_cons len_nil))))) (das_cons (de_ref 4 B rf TB rfl hT hr (by decide) (fun A outer s H E f c' hr => (de_call f_ways hr (by decide) lam_pass (das_cons (de_var 2) (das_cons (de_var 8) das_nil)) (len_cons (len_cons len_nil))))) (das_cons (de_ref 4 B rf TB rfl hT hr (by decide) (fun A outer s H E f c' hr => (de_call f_fewest hr (by decide) lam_pass (das_cons (de_var 7) (das_cons (de_var 8) das_nil)) (len_cons (len_cons len_nil))))) (das_cons (de_ref 4 B rf TB rfl hT hr (by decide) (fun A outer s H E f c' hr => (de_call f_fewest hr (by decide) lam_pass (das_cons (de_var 2) (das_cons (de_var 8) das_nil)) (len_cons (len_cons len_nil))))) (das_cons (de_ref 4 B rf TB rfl hT hr (by decide) (fun A outer s H E f c' hr => (de_call f_is_choice hr (by decide) lam_pass (das_cons (de_var 7) (das_cons de_int (das_cons (de_tup das_nil) das_nil))) (len_cons (len_cons (len_cons len_nil)))))) (das_cons (de_ref 4 B rf TB rfl hT hr (by decide) (fun A outer s H E f c' hr => (de_call f_is_choice hr (by decide) lam_pass (das_cons (de_var 2) (das_cons (de_var 8) (das_cons (de_tup das_nil) das_nil))) (len_cons (len_cons (len_cons len_nil)))))) das_nil))))))))))
    (dss_one (ds_ret (O1 := [9, 6]) (de_and (de_cmp (dc_cm (cmD_eq hr.units) (de_var 6) (DN.de (dn_rep (DN.de (dn_lst (das_cons de_bool das_nil))) de_int)))) (de_one (de_cmp (dc_cm (cmD_eq hr.units) (de_var 9) (DN.de (dn_lst (das_cons de_str (das_cons de_str (das_cons de_str (das_cons de_str (das_cons de_str (das_cons de_str das_nil)))))))))))))))))))))))
abbrev s_law : Stmt := top 24
def den_law : DenS :=
    (sSeq (sForM [] (lRange1 (lCons (dC (.int 4)) lNil)) (gSet 2)
      (sIf (bNot (dTB (dCallF F__law_case (lCons (dVar 1) lNil))))
      (sRet (dC (.bool false)))
      sNext))
    (sRet (dC (.bool true))))
theorem sc_law : FnScope ["script", "row", "turn"] ["script"] (defScope s_law) := ⟨rfl, rfl, rfl, by decide +kernel, rfl, by decide +kernel, by decide +kernel⟩
theorem nd_law : (["script", "row", "turn"] : List Str).Nodup := by decide +kernel
theorem w_law (bl : Blts mg) (f__law_case : Fn P w K mg base c 9 "_law_case" ["row"] F__law_case) {f : Addr} {fd : FuncData} {cdv : Value} (F : FunC K "law" s_law f fd cdv)
    (hden : ∀ ns : List Int, ns.length ≤ 63 → (∀ z ∈ ns, Builtin.Int.intBits z ≤ 1048576) → ∃ R', den_law [none, some rowD, none] ⟨ns, 0, 25013, 0⟩ = .ok (.rt (.bool true)) R') : FnOk P w K mg base (L2.CX P w) 10 f fd ["script"] (spLaw K c) :=
  fn_law (OL := []) F sc_law rfl (hbody := fun A outer s H E hr => have nd := nd_law; (dss_cons (ds_forM [] (passes_of rfl) rfl (tok_name 2) (di_range1 (das_cons de_int das_nil) bl.range) (dg_name 2 nd)
      (dss_one (ds_if (dt_not (dt_val (de_call f__law_case hr (by decide) cx_pass (das_cons (de_var 1) das_nil) (len_cons len_nil))))
      (dss_one (ds_ret (O1 := []) de_bool))
      dss_nil)))
    (dss_one (ds_ret (O1 := []) de_bool)))) (hden := hden)
end
end K25

namespace K25
open PySem PySem.Spec Ev
/-! ### the helpers are the shared ones -/
theorem taken_eq : F__law_taken = Sh.F__law_taken := rfl
theorem pick_eq : F__law_pick = Sh.F__law_pick := rfl
theorem whole_eq : F_is_whole = Sh.F_is_whole := rfl
theorem isrow_eq : F_is_row = Sh.F_is_row := rfl
theorem wholes_eq : F_are_wholes = Sh.F_are_wholes := rfl
theorem require_eq : F_require = Sh.F_require := rfl
theorem alike_eq : ∀ n, F__law_alike n = Sh.F__law_alike n := by
  intro n
  induction n with
  | zero => rfl
  | succ n ih =>
    show callF 1 (den__law_alike (F__law_alike n)) = callF 1 (Sh.den__law_alike (Sh.F__law_alike n))
    rw [ih]
    rfl
/-! ### kinds and choices -/
def kD (k : Int × Nat) : PyData := .tuple [.int k.1, .int k.2]
def ksD (ks : List (Int × Nat)) : PyData := .tuple (ks.map kD)
def nD (n : Nat) : PyData := .int n
def cD (o : List Nat) : PyData := .tuple (o.map nD)
def ext (found : List (List Nat)) (k : Int × Nat) : List (List Nat) := found.flatMap fun own => (List.range (k.2 + 1)).map fun t => own ++ [t]
def choices (ks : List (Int × Nat)) : List (List Nat) := ks.foldl ext [[]]
theorem choices_snoc (ks : List (Int × Nat)) (k : Int × Nat) : choices (ks ++ [k]) = ext (choices ks) k := by unfold choices; rw [List.foldl_append]; rfl
/-- what the law draws, and what the program takes -/
structure Ok (ks : List (Int × Nat)) : Prop where
  len : 1 ≤ ks.length ∧ ks.length ≤ 4
  w : ∀ k ∈ ks, 1 ≤ k.1 ∧ k.1 ≤ 99 ∧ k.2 ≤ 5
theorem ext_len (found : List (List Nat)) (k : Int × Nat) : (ext found k).length = found.length * (k.2 + 1) := by
  unfold ext
  induction found with
  | nil => simp
  | cons a l ih => rw [List.flatMap_cons, List.length_append, ih, List.length_map, List.length_range, List.length_cons, Nat.succ_mul, Nat.add_comm]
theorem choices_len : ∀ (ks : List (Int × Nat)), (∀ k ∈ ks, k.2 ≤ 5) → (choices ks).length ≤ 6 ^ ks.length := by
  intro ks
  induction ks using snoc_ind with
  | h0 => intro _; simp [choices]
  | hs ks k ih =>
    intro h
    have h1 := ih fun x hx => h x (List.mem_append_left _ hx)
    have h2 := h k (List.mem_append_right _ List.mem_cons_self)
    rw [choices_snoc, ext_len, List.length_append, List.length_singleton, Nat.pow_succ]
    exact Nat.mul_le_mul h1 (by omega)
theorem choices_small {ks pre suf : List (Int × Nat)} (h : Ok ks) (e : ks = pre ++ suf) : (choices pre).length ≤ 1296 := by
  have h1 := choices_len pre fun k hk => (h.w k (by rw [e]; exact List.mem_append_left _ hk)).2.2
  have h2 : pre.length ≤ 4 := by have := h.len.2; rw [e, List.length_append] at this; omega
  calc _ ≤ 6 ^ pre.length := h1
    _ ≤ 6 ^ 4 := Nat.pow_le_pow_right (by decide) h2
    _ = 1296 := rfl
theorem nD_add {o : List Nat} {t : Nat} : cD (o ++ [t]) = .tuple (o.map nD ++ [.int t]) := by unfold cD; rw [List.map_append]; rfl
theorem mem_choices_len : ∀ (ks : List (Int × Nat)), ∀ o ∈ choices ks, o.length = ks.length := by
  intro ks
  induction ks using snoc_ind with
  | h0 => intro o h; simp [choices] at h; rw [h]; rfl
  | hs ks k ih =>
    intro o h
    rw [choices_snoc] at h
    unfold ext at h
    obtain ⟨p, hp, h⟩ := List.mem_flatMap.mp h
    obtain ⟨t, _, rfl⟩ := List.mem_map.mp h
    rw [List.length_append, List.length_append, ih p hp]
    rfl
theorem pure_nats (o : List Nat) : pureA (o.map nD) = true := by
  induction o with
  | nil => rfl
  | cons a l ih => simp [pureA, nD, pureD]; exact ih
theorem pure_cs (cs : List (List Nat)) : pureA (cs.map cD) = true := by
  induction cs with
  | nil => rfl
  | cons a l ih => simp [pureA, cD, pureD, pure_nats]; exact ih
theorem compM_map2 {α : Type} {enc : α → PyData} {f : PyData → Ev.Row → Res (List PyData)} {g : α → List PyData} {R : Ev.Row} : ∀ {l : List α}, (∀ d ∈ l, f (enc d) R = .ok (g d) R) → compM f (l.map enc) R = .ok (l.flatMap g) R
  | [], _ => rfl
  | d :: l, h => by
    rw [List.map_cons, compM, h d List.mem_cons_self]
    show (compM f (l.map enc) R).bind _ = _
    rw [compM_map2 fun d' hd => h d' (List.mem_cons_of_mem _ hd)]
    rfl
theorem ext_map (cs : List (List Nat)) (k : Int × Nat) : (cs.flatMap fun o => (List.range (k.2 + 1)).flatMap fun t => [cD (o ++ [t])]) = (ext cs k).map cD := by
  unfold ext
  rw [List.map_flatMap]
  congr 1
  funext o
  rw [List.map_map]
  generalize List.range (k.2 + 1) = l
  induction l with
  | nil => rfl
  | cons a l ih => rw [List.flatMap_cons, ih]; rfl
theorem choices_spec {ks : List (Int × Nat)} {R : Ev.Row} (h : Ok ks) : F__law_choices [ksD ks] R = .ok (.list ((choices ks).map cD)) R := by
  apply ends_eq
  unfold F__law_choices den__law_choices ksD
  simp [callF_def]
  refine Ends.step (for_inv kD (fun pre ρ R' => R' = R ∧ ∃ a b c d, ρ = [some (.tuple (ks.map kD)), some (.list ((choices pre).map cD)), a, b, c, d]) ⟨rfl, none, none, none, none, by simp [choices, cD, small_sz]⟩ fun pre k suf ρ R1 e ⟨hR, a, b, c, d, hρ⟩ => ?_) fun fl R1 ⟨ρ', e1, hR, a, b, c, d, hρ⟩ => ?_
  · subst hR hρ
    have hk := h.w k (by rw [e]; simp)
    have hl := choices_small (pre := pre ++ [k]) h (snoc_eq e)
    have hp : pre.length ≤ 4 := by have := h.len.2; rw [e, List.length_append] at this; omega
    simp [kD]
    rw [compM_map2 (g := fun o => (List.range (k.2 + 1)).flatMap fun t => [cD (o ++ [t])]) fun o ho => ?_]
    · rw [ext_map, ← choices_snoc]
      have h1 : (choices (pre ++ [k])).length ≤ sizeLine := small_sz (by omega)
      simp [h1, pureIn, pure_cs]
    · have ol := mem_choices_len pre o ho
      simp [turnC2, rng1_s (j := (k.2 : Int) + 1) (by omega) (by omega)]
      rw [rangeL_map]
      refine compM_map2 fun t ht => ?_
      have h1 : o.length + 1 ≤ sizeLine := small_sz (by omega)
      simp [cD, h1, nD, small_sz]
  · subst e1 hR hρ
    simp
/-! ### weights -/
def weight (ks : List (Int × Nat)) (o : List Nat) : Int := ((o.zip ks).map fun p => (p.1 : Int) * p.2.1).sum
theorem weight_spec {ks : List (Int × Nat)} {o : List Nat} {R : Ev.Row} (h : Ok ks) (hl : o.length = ks.length) (hb : ∀ n ∈ o, n ≤ 100) : F__law_weight [ksD ks, cD o] R = .ok (.int (weight ks o)) R := by
  have h4 := h.len
  unfold F__law_weight den__law_weight ksD cD
  simp [callF_def, rng1_s (j := (o.length : Int)) (by omega) (by omega)]
  rw [rangeL_map, compM_map2 (g := fun i => [.int (((o[i]?.getD 0 : Nat) : Int) * (ks[i]?.getD (0, 0)).1)]) fun i hi => ?_]
  · have h1 : o.length ≤ sizeLine := small_sz (by omega)
    rw [flat_one]
    simp only [bind_ok, List.length_map, List.length_range, h1, if_true, bind_ite, sumD_map, ofO_some]
    rw [range_zip (F := fun (n : Nat) (k : Int × Nat) => (n : Int) * k.1) 0 (0, 0) o ks hl, zw_map]
    rfl
  · have hi := List.mem_range.mp hi
    have e1 := atI_map (f := nD) hi
    have e2 := atI_map (f := kD) (l := ks) (i := i) (by omega)
    have m2 := h.w (ks[i]'(by omega)) (List.getElem_mem _)
    have hn : near (ks[i]'(by omega)).1 = true := by simp [near]; omega
    simp [e1, e2, nD, kD, hn, List.getElem?_eq_getElem hi, List.getElem?_eq_getElem (show i < ks.length by omega)]
/-! ### the judges -/
theorem whole_s {R : Ev.Row} {d : PyData} {a b : Int} (h : dataD d = true) : F_is_whole [d, .int a, .int b] R = .ok (.bool (Sh.isWholeD d a b)) R := Sh.is_whole_eq h
theorem row_s {R : Ev.Row} {d : PyData} {a b : Int} (h : dataD d = true) : F_is_row [d, .int a, .int b] R = .ok (.bool (Sh.isRowD d a b)) R := Sh.is_row_eq h
theorem wholes_s {R : Ev.Row} {d : PyData} {n a b : Int} (h : dataD d = true) (hs : ∀ xs, d = .tuple xs → xs.length ≤ 1000000) : F_are_wholes [d, .int n, .int a, .int b] R = .ok (.bool (Sh.areWholesD d n a b)) R := Sh.are_wholes_eq h hs
@[simp] theorem req_t {R : Ev.Row} {nm : Str} : F_require [.bool true, .str nm] R = .ok .none R := Sh.require_t
@[simp] theorem req_f {R : Ev.Row} {nm : Str} : F_require [.bool false, .str nm] R = .exc nm R := Sh.require_f
theorem whole_i {R : Ev.Row} {i a b : Int} : F_is_whole [.int i, .int a, .int b] R = .ok (.bool (decide (a ≤ i) && decide (i ≤ b))) R := whole_s rfl
theorem data_k (k : Int × Nat) : dataD (kD k) = true := rfl
theorem data_map {α : Type} {f : α → PyData} (h : ∀ a, dataD (f a) = true) : ∀ l : List α, dataA (l.map f) = true
  | [] => rfl
  | a :: l => by simp [dataA, h a, data_map h l]
theorem are_kinds_t {ks : List (Int × Nat)} {R : Ev.Row} (h : Ok ks) : F_are_kinds [ksD ks] R = .ok (.bool true) R := by
  have h4 := h.len
  have hz : ks.length ≤ sizeLine := small_sz (by omega)
  have hd : dataD (.tuple (ks.map kD)) = true := data_map data_k ks
  have e1 : Sh.isRowD (.tuple (ks.map kD)) 1 6 = true := by simp [Sh.isRowD]; omega
  unfold F_are_kinds den_are_kinds ksD
  simp [callF_def, row_s hd, e1]
  rw [compM_map2 (g := fun k => [.bool true]) fun k hk => by
    have e := row_s (R := R) (a := 2) (b := 2) (data_k k)
    have e2 : Sh.isRowD (kD k) 2 2 = true := rfl
    simp [e, e2]]
  rw [flat_one]
  simp [hz]
  rw [compM_map2 (g := fun k => [.bool true]) fun k hk => ?_]
  · rw [flat_one]
    simp [hz]
  · have := h.w k hk
    simp [kD, whole_i, this]
    omega
def fits (ks : List (Int × Nat)) (o : List Nat) : Bool := (o.zip ks).all fun p => decide (p.1 ≤ p.2.2)
theorem data_n (n : Nat) : dataD (nD n) = true := rfl
theorem ic_bad {ks : List (Int × Nat)} {load : Int} {v : PyData} {R : Ev.Row} (h : Ok ks) (hl : 0 ≤ load ∧ load ≤ 999) (hv : dataD v = true) (hs : ∀ xs, v = .tuple xs → xs.length ≤ 1000000) (hw : Sh.areWholesD v ks.length 0 20 = false) : F_is_choice [ksD ks, .int load, v] R = .ok (.bool false) R := by
  unfold F_is_choice den_is_choice
  simp [callF_def, are_kinds_t h, whole_i, hl]
  simp [ksD, wholes_s hv hs, hw]
theorem ic_good {ks : List (Int × Nat)} {load : Int} {o : List Nat} {R : Ev.Row} (h : Ok ks) (hl : 0 ≤ load ∧ load ≤ 999) (ho : o.length = ks.length) (h20 : ∀ n ∈ o, n ≤ 20) : F_is_choice [ksD ks, .int load, cD o] R = .ok (.bool (fits ks o && decide (weight ks o = load))) R := by
  have h4 := h.len
  have hv : dataD (cD o) = true := data_map data_n o
  have hs : ∀ xs, cD o = .tuple xs → xs.length ≤ 1000000 := fun xs e => by cases e; simp; omega
  have hw : Sh.areWholesD (cD o) ks.length 0 20 = true := by
    simp [Sh.areWholesD, cD, ho, nD, Sh.isWholeD]
    intro n hn
    have := h20 n hn
    omega
  have hp : pairD (o.map nD) (ks.map kD) = (o.zip ks).map fun p => .tuple [nD p.1, kD p.2] := by
    unfold pairD
    rw [List.zip_map, List.map_map]
    rfl
  have hz : (o.zip ks).length ≤ sizeLine := small_sz (by rw [List.length_zip]; omega)
  unfold F_is_choice den_is_choice
  simp [callF_def, are_kinds_t h, whole_i, hl]
  simp [ksD, wholes_s hv hs, hw]
  simp only [cD, zipD_t, ofO_some, bind_ok, hp]
  rw [compM_map2 (g := fun p => [.bool (decide (p.2.2 < p.1))]) fun p hp => by simp [nD, kD]]
  rw [flat_one]
  simp [-List.length_zip, hz]
  have hany : ((o.zip ks).any fun x => decide (x.2.2 < x.1)) = !fits ks o := by
    unfold fits
    rw [List.any_eq_not_all_not]
    congr 2
    funext x
    by_cases hx : x.1 ≤ x.2.2
    · rw [decide_eq_true hx, decide_eq_false (by omega)]; rfl
    · rw [decide_eq_false hx, decide_eq_true (by omega)]; rfl
  rw [hany]
  cases hf : fits ks o with
  | false => simp
  | true =>
    rw [compM_map2 (g := fun p => [.int ((p.1 : Int) * p.2.1)]) fun p hp => ?_]
    · rw [flat_one]
      simp [-List.length_zip, hz, weight]
      rfl
    · have hk := h.w p.2 (List.of_mem_zip hp).2
      have hn : near p.2.1 = true := by simp [near]; omega
      simp [nD, kD, hn]
theorem zip_snoc {α β : Type} {xs : List α} {ys : List β} {a : α} {b : β} (h : xs.length = ys.length) : (xs ++ [a]).zip (ys ++ [b]) = xs.zip ys ++ [(a, b)] := by
  rw [List.zip_append h]
  rfl
theorem fits_snoc {ks : List (Int × Nat)} {o : List Nat} {k : Int × Nat} {t : Nat} (h : o.length = ks.length) : fits (ks ++ [k]) (o ++ [t]) = (fits ks o && decide (t ≤ k.2)) := by
  unfold fits
  rw [zip_snoc h, List.all_append]
  simp
theorem weight_snoc {ks : List (Int × Nat)} {o : List Nat} {k : Int × Nat} {t : Nat} (h : o.length = ks.length) : weight (ks ++ [k]) (o ++ [t]) = weight ks o + t * k.1 := by
  unfold weight
  rw [zip_snoc h, List.map_append, List.sum_append]
  simp
theorem mem_ext {found : List (List Nat)} {k : Int × Nat} {o : List Nat} : o ∈ ext found k ↔ ∃ p ∈ found, ∃ t, t ≤ k.2 ∧ o = p ++ [t] := by
  unfold ext
  simp only [List.mem_flatMap, List.mem_map, List.mem_range]
  constructor
  · rintro ⟨p, hp, t, ht, rfl⟩
    exact ⟨p, hp, t, by omega, rfl⟩
  · rintro ⟨p, hp, t, ht, rfl⟩
    exact ⟨p, hp, t, by omega, rfl⟩
theorem mem_choices (ks : List (Int × Nat)) : ∀ o, o ∈ choices ks ↔ o.length = ks.length ∧ fits ks o = true := by
  induction ks using snoc_ind with
  | h0 =>
    intro o
    simp [choices, fits]
  | hs ks k ih =>
    intro o
    rw [choices_snoc, mem_ext]
    constructor
    · rintro ⟨p, hp, t, ht, rfl⟩
      obtain ⟨h1, h2⟩ := (ih p).mp hp
      exact ⟨by rw [List.length_append, List.length_append, h1]; rfl, by rw [fits_snoc h1, h2]; simp [ht]⟩
    · rintro ⟨h1, h2⟩
      rw [List.length_append, List.length_singleton] at h1
      have hne : o ≠ [] := fun z => by rw [z] at h1; simp at h1
      have e := (List.dropLast_concat_getLast hne).symm
      have hl : o.dropLast.length = ks.length := by rw [List.length_dropLast]; omega
      rw [e, fits_snoc hl, Bool.and_eq_true, decide_eq_true_eq] at h2
      exact ⟨o.dropLast, (ih _).mpr ⟨hl, h2.1⟩, o.getLast hne, h2.2, e⟩
/-! ### ways -/
/-- how many choices weigh t -/
def cnt (ks : List (Int × Nat)) (t : Int) : Nat := ((choices ks).filter fun o => decide (weight ks o = t)).length
theorem cnt_nil (t : Int) : cnt [] t = if t = 0 then 1 else 0 := by
  unfold cnt choices weight
  by_cases h : t = 0
  · subst h; rfl
  · simp [h, Ne.symm h]
theorem filter_flat {α β : Type} (p : β → Bool) (f : α → List β) : ∀ l : List α, (l.flatMap f).filter p = l.flatMap fun a => (f a).filter p
  | [] => rfl
  | a :: l => by rw [List.flatMap_cons, List.filter_append, filter_flat p f l, List.flatMap_cons]
theorem len_flat {α β : Type} (f : α → List β) : ∀ l : List α, (l.flatMap f).length = (l.map fun a => (f a).length).sum
  | [] => rfl
  | a :: l => by rw [List.flatMap_cons, List.length_append, len_flat f l]; rfl
/-- two sums change places -/
theorem sum_swap {α β : Type} (F : α → β → Nat) (ys : List β) : ∀ xs : List α, (xs.map fun a => (ys.map fun b => F a b).sum).sum = (ys.map fun b => (xs.map fun a => F a b).sum).sum
  | [] => by
    induction ys with
    | nil => rfl
    | cons b ys ih => simpa using ih
  | a :: xs => by
    rw [List.map_cons, List.sum_cons, sum_swap F ys xs]
    clear sum_swap
    induction ys with
    | nil => rfl
    | cons b ys ih => simp only [List.map_cons, List.sum_cons] at ih ⊢; omega
theorem len_filter {α : Type} (p : α → Bool) : ∀ l : List α, (l.filter p).length = (l.map fun a => if p a then 1 else 0).sum
  | [] => rfl
  | a :: l => by
    rw [List.filter_cons, List.map_cons, List.sum_cons, ← len_filter p l]
    split <;> simp_all <;> omega
theorem cnt_snoc (ks : List (Int × Nat)) (k : Int × Nat) (t : Int) : cnt (ks ++ [k]) t = ((List.range (k.2 + 1)).map fun j : Nat => cnt ks (t - k.1 * j)).sum := by
  unfold cnt
  rw [choices_snoc]
  unfold ext
  rw [filter_flat, len_flat]
  have e1 : ∀ o ∈ choices ks, (((List.range (k.2 + 1)).map fun j => o ++ [j]).filter fun o => decide (weight (ks ++ [k]) o = t)).length = ((List.range (k.2 + 1)).map fun j : Nat => if decide (weight ks o = t - k.1 * j) then 1 else 0).sum := by
    intro o ho
    have hl := mem_choices_len ks o ho
    rw [len_filter, List.map_map]
    congr 1
    apply List.map_congr_left
    intro j _
    show (if decide (weight (ks ++ [k]) (o ++ [j]) = t) = true then 1 else 0) = _
    rw [weight_snoc hl]
    have : (weight ks o + (j : Int) * k.1 = t) ↔ (weight ks o = t - k.1 * j) := by rw [Int.mul_comm]; omega
    simp only [decide_eq_true_eq, this]
  rw [List.map_congr_left e1, sum_swap]
  congr 1
  apply List.map_congr_left
  intro j _
  rw [len_filter]
theorem weight_pos {ks : List (Int × Nat)} (h : ∀ k ∈ ks, 1 ≤ k.1) (o : List Nat) : 0 ≤ weight ks o := by
  unfold weight
  have : ∀ l : List (Nat × Int × Nat), (∀ p ∈ l, 1 ≤ p.2.1) → 0 ≤ (l.map fun p => (p.1 : Int) * p.2.1).sum := by
    intro l
    induction l with
    | nil => intro _; simp
    | cons p l ih =>
      intro hp
      have h1 := ih fun q hq => hp q (List.mem_cons_of_mem _ hq)
      have h2 : 0 ≤ (p.1 : Int) * p.2.1 := Int.mul_nonneg (by omega) (by have := hp p List.mem_cons_self; omega)
      rw [List.map_cons, List.sum_cons]
      omega
  exact this _ fun p hp => h p.2 (List.of_mem_zip hp).2
theorem cnt_neg {ks : List (Int × Nat)} (h : ∀ k ∈ ks, 1 ≤ k.1) {t : Int} (ht : t < 0) : cnt ks t = 0 := by
  unfold cnt
  rw [List.length_eq_zero_iff, List.filter_eq_nil_iff]
  intro o _
  have := weight_pos h o
  simp
  omega
def tab (ks : List (Int × Nat)) (n : Nat) : List PyData := (List.range n).map fun t : Nat => PyData.int (cnt ks t)
theorem tab_snoc (ks : List (Int × Nat)) (n : Nat) : tab ks (n + 1) = tab ks n ++ [.int (cnt ks n)] := by unfold tab; rw [List.range_succ, List.map_append]; rfl
theorem tab_len {ks : List (Int × Nat)} {n : Nat} : (tab ks n).length = n := by unfold tab; simp
theorem tab_at {ks : List (Int × Nat)} {n m : Nat} (h : n < m) : L2.atI (tab ks m) (n : Int) = some (.int (cnt ks n)) := by
  rw [atI_nat (by rw [tab_len]; exact h)]
  unfold tab
  rw [List.getElem_map, List.getElem_range]
theorem ixN_nat {n : Nat} {i : Nat} (h : i < n) : L2.ixN n (i : Int) = some i := by
  unfold L2.ixN
  rw [if_pos (by omega), if_pos (by omega)]
  rfl
theorem flat_rep {α : Type} (n : Nat) (a : α) : (List.replicate n [a]).flatten = List.replicate n a := by
  induction n with
  | zero => rfl
  | succ n ih => rw [List.replicate_succ, List.flatten_cons, ih]; rfl
theorem tab_nil (n : Nat) : .int 1 :: List.replicate n (.int 0) = tab [] (n + 1) := by
  induction n with
  | zero => rfl
  | succ n ih =>
    rw [tab_snoc, ← ih, List.replicate_succ', cnt_nil, if_neg (by omega)]
    rfl
theorem set_mid {α : Type} (xs : List α) (a b : α) (ys : List α) (n : Nat) (h : xs.length = n) : (xs ++ a :: ys).set n b = xs ++ b :: ys := by
  subst h
  simp
theorem sum_int (f : Nat → Nat) (l : List Nat) : (l.map fun x => ((f x : Nat) : Int)).sum = (((l.map f).sum : Nat) : Int) := by
  induction l with
  | nil => rfl
  | cons a l ih => rw [List.map_cons, List.map_cons, List.sum_cons, List.sum_cons, ih]; omega
theorem sum_filter (f : Nat → Nat) (p : Nat → Bool) (l : List Nat) (h : ∀ x ∈ l, p x = false → f x = 0) : ((l.filter p).map f).sum = (l.map f).sum := by
  induction l with
  | nil => rfl
  | cons a l ih =>
    have ih := ih fun x hx => h x (List.mem_cons_of_mem _ hx)
    rw [List.filter_cons, List.map_cons, List.sum_cons]
    split
    · rw [List.map_cons, List.sum_cons, ih]
    · rename_i hp
      rw [h a List.mem_cons_self (by simpa using hp), ih]
      omega
theorem ways_spec {ks : List (Int × Nat)} {L : Nat} {R : Ev.Row} (h : Ok ks) (hL : L ≤ 999) : F_ways [ksD ks, .int (L : Int)] R = .ok (.int (cnt ks L)) R := by
  apply ends_eq
  have hw1 : ∀ k ∈ ks, 1 ≤ k.1 := fun k hk => (h.w k hk).1
  have hz : L + 1 ≤ sizeLine := small_sz (by omega)
  have hz2 : 1 + L ≤ sizeLine := small_sz (by omega)
  have hz3 : L ≤ sizeLine := small_sz (by omega)
  unfold F_ways den_ways
  simp [callF_def, are_kinds_t h, whole_i]
  have g1 : ((L : Int) ≤ 999) := by omega
  have g2 : -9223372036854775808 ≤ (L : Int) ∧ (L : Int) < 9223372036854775808 := by omega
  have g3 : -9223372036854775808 ≤ (L : Int) + 1 ∧ (L : Int) + 1 < 9223372036854775808 := by omega
  have e4 : ((L : Int) + 1).toNat = L + 1 := by omega
  have sq : seqD (ksD ks) = some (ks.map kD) := rfl
  simp [g1, g2, hz, hz2, hz3, flat_rep, tab_nil, sq]
  refine Ends.step (for_inv kD (fun pre ρ R' => R' = R ∧ ∃ a b c d e f g, ρ = [some (ksD ks), some (.int (L : Int)), some (.list (tab pre (L + 1))), a, b, c, d, e, f, g]) ⟨rfl, _, _, _, _, _, _, _, rfl⟩ fun pre k suf ρ R1 e ⟨hR, a, b, c, d, e', f, g, hρ⟩ => ?_) fun fl R1 ⟨ρ', e1, hR, a, b, c, d, e', f, g, hρ⟩ => ?_
  · subst hR hρ
    have hk := h.w k (by rw [e]; simp)
    have hpre : ∀ k ∈ pre, 1 ≤ k.1 := fun k hk => hw1 k (by rw [e]; exact List.mem_append_left _ hk)
    simp [kD, g3, hz, flat_rep, rng1_s (j := (L : Int) + 1) (by omega) (by omega), e4]
    refine Ends.step (for_range (fun n ρ R' => R' = R1 ∧ ∃ a b c d, ρ = [some (ksD ks), some (.int (L : Int)), some (.list (tab pre (L + 1))), some (.int k.1), some (.int (k.2 : Int)), some (.list (tab (pre ++ [k]) n ++ List.replicate (L + 1 - n) (.int 0))), a, b, c, d]) ⟨rfl, _, _, _, _, rfl⟩ fun n ρ R2 hn ⟨hR, a, b, c, d, hρ⟩ => ?_) fun fl R2 ⟨ρ', e1, hR, a, b, c, d, hρ⟩ => ?_
    · subst hR hρ
      simp [rng1_s (j := (k.2 : Int) + 1) (by omega) (by omega)]
      rw [rangeL_map, compM_map2 (g := fun j : Nat => if decide (k.1 * (j : Int) ≤ (n : Int)) then [.int ((n : Int) - k.1 * (j : Int))] else []) fun j hj => ?_]
      · rw [flat_if]
        have l1 : ((List.range (k.2 + 1)).filter fun j : Nat => decide (k.1 * (j : Int) ≤ (n : Int))).length ≤ sizeLine := small_sz (by have := List.length_filter_le (fun j : Nat => decide (k.1 * (j : Int) ≤ (n : Int))) (List.range (k.2 + 1)); rw [List.length_range] at this; omega)
        simp only [bind_ok, List.length_map, l1, if_true]
        rw [compM_map2 (g := fun j : Nat => [.int ((cnt pre ((n : Int) - k.1 * (j : Int)) : Nat) : Int)]) fun j hj => ?_]
        · rw [flat_one]
          simp only [bind_ok, List.length_map, l1, if_true, sumD_map, ofO_some, pureD]
          rw [sum_int (fun j : Nat => cnt pre ((n : Int) - k.1 * (j : Int))), sum_filter (fun j : Nat => cnt pre ((n : Int) - k.1 * (j : Int))) _ _ fun j _ hj => cnt_neg hpre (by have := of_decide_eq_false hj; omega), ← cnt_snoc]
          have l2 : n < n + (L + 1 - n) := by omega
          have l3 : L + 1 - n = (L - n) + 1 := by omega
          simp [tab_len, ixN_nat l2]
          rw [l3, List.replicate_succ, tab_snoc]
          simp
        · have hj2 := of_decide_eq_true (List.mem_filter.mp hj).2
          have hj3 : 0 ≤ k.1 * (j : Int) := Int.mul_nonneg (by omega) (by omega)
          obtain ⟨m, hm⟩ : ∃ m : Nat, (n : Int) - k.1 * (j : Int) = (m : Int) := ⟨((n : Int) - k.1 * (j : Int)).toNat, by omega⟩
          have hm2 : m < L + 1 := by omega
          rw [hm]
          simp [tab_at hm2]
      · have hn : near k.1 = true := by simp [near]; omega
        by_cases hc : k.1 * (j : Int) ≤ (n : Int)
        · simp [hn, hc]
        · simp [hn, hc]
    · subst e1 hR hρ
      simp
  · subst e1 hR hρ
    simp [tab_at (ks := ks) (show L < L + 1 by omega)]
/-! ### fewest -/
def nts (o : List Nat) : List Int := o.map fun n : Nat => (n : Int)
def sm (o : List Nat) : Int := (nts o).sum
def kl (o p : List Nat) : Prop := keyLt (sm o) (nts o) (sm p) (nts p)
def keyD (o : List Nat) : PyData := .tuple [.int (sm o), cD o]
theorem cD_nts (o : List Nat) : cD o = .tuple ((nts o).map PyData.int) := by
  unfold cD nts nD
  rw [List.map_map]
  rfl
theorem nts_snoc (o : List Nat) (t : Nat) : nts (o ++ [t]) = nts o ++ [(t : Int)] := by unfold nts; rw [List.map_append]; rfl
theorem sm_snoc (o : List Nat) (t : Nat) : sm (o ++ [t]) = sm o + t := by unfold sm; rw [nts_snoc, List.sum_append]; simp
theorem nts_len (o : List Nat) : (nts o).length = o.length := by unfold nts; simp
theorem nts_inj {o p : List Nat} (h : nts o = nts p) : o = p := by
  unfold nts at h
  exact List.map_inj_right (fun a b e => by omega) |>.mp h
theorem kl_snoc {o p : List Nat} (h : o.length = p.length) (t : Nat) : kl (o ++ [t]) (p ++ [t]) ↔ kl o p := by
  unfold kl keyLt
  rw [sm_snoc, sm_snoc, nts_snoc, nts_snoc, row_app (by rw [nts_len, nts_len]; exact h)]
  constructor
  · rintro (h | ⟨h, h'⟩)
    · exact .inl (by omega)
    · exact .inr ⟨by omega, h'⟩
  · rintro (h | ⟨h, h'⟩)
    · exact .inl (by omega)
    · exact .inr ⟨by omega, h'⟩
theorem lt_keyD (o p : List Nat) : PySem.W.dataLt (keyD o) (keyD p) = decide (keyLt (sm o) (nts o) (sm p) (nts p)) := by
  unfold keyD
  rw [cD_nts, cD_nts]
  exact lt_key _ _ _ _
/-- o is the least of S that weighs t -/
def Best (wt : List Nat → Int) (S : List (List Nat)) (t : Int) (o : List Nat) : Prop := o ∈ S ∧ wt o = t ∧ ∀ p ∈ S, wt p = t → ¬ kl p o
theorem best_one {wt : List Nat → Int} {S : List (List Nat)} {t : Int} {o p : List Nat} (h : Best wt S t o) (h' : Best wt S t p) : o = p := nts_inj (keyLt_tot (h'.2.2 o h.1 h.2.1) (h.2.2 p h'.1 h'.2.1)).2
/-- the table D holds the least of S for every weight up to L -/
structure Tab (wt : List Nat → Int) (L : Int) (S : List (List Nat)) (D : List (Int × List Nat)) : Prop where
  nd : (D.map (·.1)).Nodup
  ok : ∀ q ∈ D, q.1 ≤ L ∧ Best wt S q.1 q.2
  all : ∀ p ∈ S, wt p ≤ L → ∃ o, (wt p, o) ∈ D
theorem tab_new {wt : List Nat → Int} {L : Int} : Tab wt L [] [] := ⟨List.nodup_nil, (fun _ h => by simp at h), fun _ h => by simp at h⟩
theorem tab_skip {wt : List Nat → Int} {L : Int} {S : List (List Nat)} {D : List (Int × List Nat)} {c : List Nat} (T : Tab wt L S D) (h : wt c ≤ L → ∃ o, (wt c, o) ∈ D ∧ ¬ kl c o) : Tab wt L (S ++ [c]) D := by
  refine ⟨T.nd, fun q hq => ?_, fun p hp hl => ?_⟩
  · obtain ⟨h1, h2, h3, h4⟩ := T.ok q hq
    refine ⟨h1, List.mem_append_left _ h2, h3, fun p hp e => ?_⟩
    rcases List.mem_append.mp hp with hp | hp
    · exact h4 p hp e
    · have := List.mem_singleton.mp hp
      subst this
      obtain ⟨o, ho, hk⟩ := h (by omega)
      have e2 := find_enc T.nd ho
      have e3 := find_enc T.nd (t := q.1) (a := q.2) hq
      rw [e] at e2
      rw [e2] at e3
      cases e3
      exact hk
  · rcases List.mem_append.mp hp with hp | hp
    · exact T.all p hp hl
    · have := List.mem_singleton.mp hp
      subst this
      obtain ⟨o, ho, _⟩ := h hl
      exact ⟨o, ho⟩
theorem tab_put {wt : List Nat → Int} {L : Int} {S : List (List Nat)} {D : List (Int × List Nat)} {c : List Nat} (T : Tab wt L S D) (hl : wt c ≤ L) (h : ∀ o, (wt c, o) ∈ D → kl c o) : Tab wt L (S ++ [c]) (putD D (wt c) c) := by
  refine ⟨nd_putD T.nd, fun q hq => ?_, fun p hp hl => ?_⟩
  · rcases (mem_putD T.nd).mp hq with rfl | ⟨hq, hn⟩
    · refine ⟨hl, List.mem_append_right _ List.mem_cons_self, rfl, fun p hp e => ?_⟩
      have e : wt p = wt c := e
      rcases List.mem_append.mp hp with hp | hp
      · obtain ⟨o, ho⟩ := T.all p hp (by rw [e]; exact hl)
        have hb := (T.ok _ ho).2.2.2 p hp rfl
        have hk := h o (by rw [← e]; exact ho)
        exact fun z => hb (keyLt_trans z hk)
      · have := List.mem_singleton.mp hp
        subst this
        exact (keyLt_irr _ _ : ¬ kl _ _)
    · obtain ⟨h1, h2, h3, h4⟩ := T.ok q hq
      refine ⟨h1, List.mem_append_left _ h2, h3, fun p hp e => ?_⟩
      rcases List.mem_append.mp hp with hp | hp
      · exact h4 p hp e
      · have := List.mem_singleton.mp hp
        subst this
        exact absurd e.symm hn
  · by_cases e : wt p = wt c
    · exact ⟨c, (mem_putD T.nd).mpr (.inl (by rw [e]))⟩
    · rcases List.mem_append.mp hp with hp | hp
      · obtain ⟨o, ho⟩ := T.all p hp hl
        exact ⟨o, (mem_putD T.nd).mpr (.inr ⟨ho, e⟩)⟩
      · have := List.mem_singleton.mp hp
        subst this
        exact absurd rfl e
/-- from a table over a part of the choices to the table over all -/
theorem tab_ext {ks : List (Int × Nat)} {k : Int × Nat} {L : Int} {D D' : List (Int × List Nat)} (hk : 1 ≤ k.1) (T : Tab (weight ks) L (choices ks) D) (T' : Tab (weight (ks ++ [k])) L (ext (D.map (·.2)) k) D') : Tab (weight (ks ++ [k])) L (choices (ks ++ [k])) D' := by
  rw [choices_snoc]
  have key : ∀ p ∈ ext (choices ks) k, weight (ks ++ [k]) p ≤ L → ∃ c ∈ ext (D.map (·.2)) k, weight (ks ++ [k]) c = weight (ks ++ [k]) p ∧ ¬ kl p c := by
    intro p hp hl
    obtain ⟨p', hp', t, ht, rfl⟩ := mem_ext.mp hp
    have l1 := mem_choices_len ks p' hp'
    rw [weight_snoc l1] at hl ⊢
    have h0 : 0 ≤ (t : Int) * k.1 := Int.mul_nonneg (by omega) (by omega)
    obtain ⟨o, ho⟩ := T.all p' hp' (by omega)
    obtain ⟨_, b1, b2, b3⟩ := T.ok _ ho
    have l2 := mem_choices_len ks o b1
    refine ⟨o ++ [t], mem_ext.mpr ⟨o, List.mem_map.mpr ⟨_, ho, rfl⟩, t, ht, rfl⟩, ?_, ?_⟩
    · rw [weight_snoc l2, b2]
    · rw [kl_snoc (by rw [l1, l2])]
      exact b3 p' hp' rfl
  have sub : ∀ c ∈ ext (D.map (·.2)) k, c ∈ ext (choices ks) k := by
    intro c hc
    obtain ⟨o, ho, t, ht, rfl⟩ := mem_ext.mp hc
    obtain ⟨q, hq, rfl⟩ := List.mem_map.mp ho
    exact mem_ext.mpr ⟨q.2, (T.ok q hq).2.1, t, ht, rfl⟩
  refine ⟨T'.nd, fun q hq => ?_, fun p hp hl => ?_⟩
  · obtain ⟨h1, h2, h3, h4⟩ := T'.ok q hq
    refine ⟨h1, sub _ h2, h3, fun p hp e => ?_⟩
    obtain ⟨c, hc, e2, hn⟩ := key p hp (by omega)
    have h5 := h4 c hc (by omega)
    intro z
    -- p < q.2 <= c
    by_cases hz : kl q.2 c
    · exact hn (keyLt_trans z hz)
    · have := keyLt_tot hz h5
      have e3 := nts_inj this.2
      rw [← e3] at hn
      exact hn z
  · obtain ⟨c, hc, e2, _⟩ := key p hp hl
    obtain ⟨o, ho⟩ := T'.all c hc (by omega)
    exact ⟨o, by rw [← e2]; exact ho⟩
instance (o p : List Nat) : Decidable (kl o p) := inferInstanceAs (Decidable (keyLt _ _ _ _))
theorem pure_key (o : List Nat) : pureD (keyD o) = true := by simp [keyD, cD, pureD, pureA, pure_nats]
theorem shp_nats (n : Nat) (o : List Nat) : (o.map nD).all (shp (n + 1)) = true := by simp [nD]
theorem lt_keys (o p : List Nat) : ltTy (.tup [.int, .seq .int]) (keyD o) (keyD p) = some (.bool (decide (kl o p))) := by
  have h1 : ∀ o, hasTy (.tup [.int, .seq .int]) (keyD o) = true := fun o => by simp [keyD, cD, hasTy, hasTys, nD]
  have h2 : ∀ o, shp 9 (keyD o) = true := fun o => by simp [keyD, cD, nD]
  unfold ltTy
  rw [h1, h1, h2, h2, lt_keyD]
  rfl
theorem key_snoc (o : List Nat) (t : Nat) : PyData.tuple [.int (sm o + t), .tuple (o.map nD ++ [.int t])] = keyD (o ++ [t]) := by
  unfold keyD
  rw [sm_snoc, nD_add]
theorem fewest_spec {ks : List (Int × Nat)} {L : Nat} {R : Ev.Row} (h : Ok ks) (hL : L ≤ 999) : ∃ D, Tab (weight ks) L (choices ks) D ∧
    F_fewest [ksD ks, .int (L : Int)] R = .ok (match D.find? fun p => decide (p.1 = (L : Int)) with | some p => cD p.2 | none => .none) R := by
  suffices hh : Ends (F_fewest [ksD ks, .int (L : Int)] R) (fun d R' => ∃ D, Tab (weight ks) L (choices ks) D ∧ d = (match D.find? fun p => decide (p.1 = (L : Int)) with | some p => cD p.2 | none => .none) ∧ R' = R) FX by
    cases e : F_fewest [ksD ks, .int (L : Int)] R with
    | ok a R1 => rw [e] at hh; obtain ⟨D, T, rfl, rfl⟩ := hh; exact ⟨D, T, rfl⟩
    | exc nm R1 => rw [e] at hh; exact hh.elim
    | stuck => rw [e] at hh; exact hh.elim
  have hw1 : ∀ k ∈ ks, 1 ≤ k.1 := fun k hk => (h.w k hk).1
  have g1 : ((L : Int) ≤ 999) := by omega
  have sq : seqD (ksD ks) = some (ks.map kD) := rfl
  unfold F_fewest den_fewest
  simp [callF_def, are_kinds_t h, whole_i, g1, sq, toKey]
  refine Ends.step (for_inv kD (fun pre ρ R' => R' = R ∧ ∃ D, Tab (weight pre) L (choices pre) D ∧ D.length ≤ (choices pre).length ∧ ∃ a b c d e f g, ρ = [some (ksD ks), some (.int (L : Int)), some (.dict (encD keyD D)), a, b, c, d, e, f, g])
    ⟨rfl, [(0, [])], ⟨by simp, fun q hq => ?_, fun p hp hl => ?_⟩, by simp [choices], _, _, _, _, _, _, _, rfl⟩ fun pre k suf ρ R1 e ⟨hR, D, T, hD, a, b, c, d, e', f, g, hρ⟩ => ?_) fun fl R1 ⟨ρ', e1, hR, D, T, hD, a, b, c, d, e', f, g, hρ⟩ => ?_
  · rw [List.mem_singleton.mp hq]
    exact ⟨by simp, by simp [choices], rfl, fun p hp _ => by simp [choices] at hp; subst hp; exact (keyLt_irr _ _ : ¬ kl _ _)⟩
  · simp [choices] at hp
    subst hp
    exact ⟨[], by simp [weight]⟩
  · subst hR hρ
    have hk := h.w k (by rw [e]; simp)
    have hs := choices_small (pre := pre) h e
    have hs2 := choices_small (pre := pre ++ [k]) h (snoc_eq e)
    have hp4 : pre.length ≤ 4 := by have := h.len.2; rw [e, List.length_append] at this; omega
    simp [kD, pureIn, keysD_enc]
    refine Ends.stepX (for_inv (fun q : Int × List Nat => PyData.int q.1) (fun pq ρ R' => R' = R1 ∧ ∃ D', Tab (weight (pre ++ [k])) L (ext (pq.map (·.2)) k) D' ∧ D'.length ≤ (ext (pq.map (·.2)) k).length ∧ ∃ d e f g, ρ = [some (ksD ks), some (.int (L : Int)), some (.dict (encD keyD D)), some (.int k.1), some (.int (k.2 : Int)), some (.dict (encD keyD D')), d, e, f, g])
      ⟨rfl, [], tab_new, by simp, _, _, _, _, rfl⟩ fun pq q sq' ρ R2 e2 ⟨hR, D', T', hD', d, e', f, g, hρ⟩ => ?_) fun fl R2 ⟨ρ', e1, hR, D', T', hD', d, e', f, g, hρ⟩ => ?_
    · subst hR hρ
      obtain ⟨t, o⟩ := q
      have hq : (t, o) ∈ D := by rw [e2]; simp
      have hT := T.ok (t, o) hq
      have q1 : t ≤ (L : Int) := hT.1
      have q2 : o ∈ choices pre := hT.2.1
      have q3 : weight pre o = t := hT.2.2.1
      have ol := mem_choices_len pre o q2
      have q5 : 0 ≤ t := by rw [← q3]; exact weight_pos (fun k hk => hw1 k (by rw [e]; exact List.mem_append_left _ hk)) o
      have hex : ext ((pq ++ [(t, o)]).map (·.2)) k = ext (pq.map (·.2)) k ++ (List.range (k.2 + 1)).map fun j => o ++ [j] := by
        unfold ext
        rw [List.map_append, List.flatMap_append]
        simp
      have hnn : (ext ((pq ++ [(t, o)]).map (·.2)) k).length ≤ 10000 := by
        rw [ext_len, List.length_map]
        have h1 : (pq ++ [(t, o)]).length ≤ D.length := by rw [e2]; simp
        have h2 : (pq ++ [(t, o)]).length ≤ 1296 := by omega
        calc _ ≤ 1296 * 6 := Nat.mul_le_mul h2 (by omega)
          _ ≤ 10000 := by decide
      rw [hex] at hnn ⊢
      rw [List.length_append, List.length_map, List.length_range] at hnn
      simp [rng1_s (j := (k.2 : Int) + 1) (by omega) (by omega)]
      refine (for_range (fun n ρ R' => R' = R2 ∧ ∃ D', Tab (weight (pre ++ [k])) L (ext (pq.map (·.2)) k ++ (List.range n).map fun j => o ++ [j]) D' ∧ D'.length ≤ (ext (pq.map (·.2)) k).length + n ∧ ∃ e f g, ρ = [some (ksD ks), some (.int (L : Int)), some (.dict (encD keyD D)), some (.int k.1), some (.int (k.2 : Int)), some (.dict (encD keyD D')), some (.int t), e, f, g])
        ⟨rfl, D', by simpa using T', by simpa using hD', _, _, _, rfl⟩ fun n ρ R3 hn ⟨hR, D2, T2, hD2, e3, f3, g3, hρ⟩ => ?_).mono (fun fl R3 ⟨ρ', e1, hR, D2, T2, hD2, e3, f3, g3, hρ⟩ => ?_) fun _ _ z => z
      · subst hR hρ
        have hnk : near k.1 = true := by simp [near]; omega
        have hsz : o.length + 1 ≤ sizeLine := small_sz (by omega)
        have hwt : weight (pre ++ [k]) (o ++ [n]) = t + k.1 * (n : Int) := by rw [weight_snoc ol, q3, Int.mul_comm]
        have idx1 : idxD (.dict (encD keyD D)) (.int t) = some (keyD o) := idx_enc T.nd hq
        have hS : ext (pq.map (·.2)) k ++ (List.range (n + 1)).map (fun j => o ++ [j]) = (ext (pq.map (·.2)) k ++ (List.range n).map fun j => o ++ [j]) ++ [o ++ [n]] := by
          rw [List.range_succ, List.map_append, List.append_assoc]
          rfl
        rw [hS]
        have i0 : idxD (keyD o) (.int 0) = some (.int (sm o)) := by simp [keyD]
        have i1 : idxD (keyD o) (.int 1) = some (.tuple (o.map nD)) := by simp [keyD, cD]
        have hsz2 : D2.length < sizeLine := Nat.lt_of_lt_of_le (show D2.length < 1000000 by omega) (small_sz (Nat.le_refl _))
        by_cases hl : t + k.1 * (n : Int) ≤ (L : Int)
        · cases hf : D2.find? fun p => decide (p.1 = t + k.1 * (n : Int)) with
          | none =>
            have hno := find_no.mp hf
            refine ends_of (X := .nx [some (ksD ks), some (.int (L : Int)), some (.dict (encD keyD D)), some (.int k.1), some (.int (k.2 : Int)), some (.dict (encD keyD (putD D2 (t + k.1 * (n : Int)) (o ++ [n])))), some (.int t), some (.int (n : Int)), some (keyD (o ++ [n])), some (.int (t + k.1 * (n : Int)))]) (R := R3) (by simp [-setD_d, idx1, i0, i1, hsz, hnk, key_snoc, in_enc, hl, hf, pure_key, set_enc hsz2]) ⟨_, rfl, rfl, putD D2 (t + k.1 * (n : Int)) (o ++ [n]), ?_, Nat.le_trans len_putD (by omega), _, _, _, rfl⟩
            have := tab_put (c := o ++ [n]) T2 (by rw [hwt]; exact hl) fun o' ho' => absurd (by rw [hwt]) (hno _ ho')
            rw [hwt] at this
            exact this
          | some p =>
            have hp1 := of_decide_eq_true (List.find?_some (p := fun p : Int × List Nat => decide (p.1 = t + k.1 * (n : Int))) hf)
            have hp2 := List.mem_of_find?_eq_some hf
            obtain ⟨pt, po⟩ := p
            have hp1 : pt = t + k.1 * (n : Int) := hp1
            subst hp1
            have idx2 := idx_enc (v := keyD) T2.nd hp2
            by_cases hkl : kl (o ++ [n]) po
            · refine ends_of (X := .nx [some (ksD ks), some (.int (L : Int)), some (.dict (encD keyD D)), some (.int k.1), some (.int (k.2 : Int)), some (.dict (encD keyD (putD D2 (t + k.1 * (n : Int)) (o ++ [n])))), some (.int t), some (.int (n : Int)), some (keyD (o ++ [n])), some (.int (t + k.1 * (n : Int)))]) (R := R3) (by simp [-setD_d, idx1, idx2, i0, i1, hsz, hnk, key_snoc, in_enc, hl, hf, pure_key, set_enc hsz2, lt_keys, hkl]) ⟨_, rfl, rfl, putD D2 (t + k.1 * (n : Int)) (o ++ [n]), ?_, Nat.le_trans len_putD (by omega), _, _, _, rfl⟩
              have := tab_put (c := o ++ [n]) T2 (by rw [hwt]; exact hl) fun o' ho' => by
                rw [hwt] at ho'
                have e1 := find_enc T2.nd ho'
                rw [hf] at e1
                cases e1
                exact hkl
              rw [hwt] at this
              exact this
            · refine ends_of (X := .nx [some (ksD ks), some (.int (L : Int)), some (.dict (encD keyD D)), some (.int k.1), some (.int (k.2 : Int)), some (.dict (encD keyD D2)), some (.int t), some (.int (n : Int)), some (keyD (o ++ [n])), some (.int (t + k.1 * (n : Int)))]) (R := R3) (by simp [-setD_d, idx1, idx2, i0, i1, hsz, hnk, key_snoc, in_enc, hl, hf, pure_key, set_enc hsz2, lt_keys, hkl]) ⟨_, rfl, rfl, D2, ?_, by omega, _, _, _, rfl⟩
              exact tab_skip (c := o ++ [n]) T2 fun _ => ⟨po, by rw [hwt]; exact hp2, hkl⟩
        · refine ends_of (X := .nx [some (ksD ks), some (.int (L : Int)), some (.dict (encD keyD D)), some (.int k.1), some (.int (k.2 : Int)), some (.dict (encD keyD D2)), some (.int t), some (.int (n : Int)), some (keyD (o ++ [n])), some (.int (t + k.1 * (n : Int)))]) (R := R3) (by simp [idx1, i0, i1, hsz, hnk, key_snoc, in_enc, hl]) ⟨_, rfl, rfl, D2, ?_, by omega, _, _, _, rfl⟩
          exact tab_skip (c := o ++ [n]) T2 fun hc => absurd (by rw [← hwt]; exact hc) hl
      · exact ⟨ρ', e1, hR, D2, T2, hD2, _, _, _, _, hρ⟩
    · subst e1 hR hρ
      have h1 := tab_ext hk.1 T T'
      refine ⟨_, rfl, rfl, D', h1, ?_, _, _, _, _, _, _, _, rfl⟩
      rw [choices_snoc, ext_len]
      rw [ext_len, List.length_map] at hD'
      exact Nat.le_trans hD' (Nat.mul_le_mul_right _ hD)
  · subst e1 hR hρ
    cases hf : D.find? fun p => decide (p.1 = (L : Int)) with
    | none =>
      refine ends_of (X := .none) (R := R1) (by simp [in_enc, hf]) ⟨D, T, by rw [hf], rfl⟩
    | some p =>
      have hp1 := of_decide_eq_true (List.find?_some (p := fun p : Int × List Nat => decide (p.1 = (L : Int))) hf)
      have hp2 := List.mem_of_find?_eq_some hf
      obtain ⟨pt, po⟩ := p
      have hp1 : pt = (L : Int) := hp1
      subst hp1
      have idx2 := idx_enc (v := keyD) T.nd hp2
      have i1 : idxD (keyD po) (.int 1) = some (cD po) := by simp [keyD]
      refine ends_of (X := cD po) (R := R1) (by simp [in_enc, hf, idx2, i1]) ⟨D, T, by rw [hf], rfl⟩
end K25

namespace K25
open PySem PySem.Spec Ev
/-! ### due -/
theorem lt_kl (o p : List Nat) : PySem.W.dataLt (keyD o) (keyD p) = decide (kl o p) := lt_keyD o p
theorem minD_best (S : List (List Nat)) : ∀ (l : List (List Nat)) (o : List Nat), (∀ p ∈ l, p ∈ S) → o ∈ S → ∃ b ∈ S, PySem.W.minD (keyD o) (l.map keyD) = keyD b ∧ ¬ kl o b ∧ ∀ p ∈ l, ¬ kl p b
  | [], o, _, ho => ⟨o, ho, rfl, keyLt_irr _ _, fun p hp => by simp at hp⟩
  | a :: l, o, hl, ho => by
    have ha := hl a List.mem_cons_self
    have hl' : ∀ p ∈ l, p ∈ S := fun p hp => hl p (List.mem_cons_of_mem _ hp)
    by_cases h : kl a o
    · obtain ⟨b, hb, e, h1, h2⟩ := minD_best S l a hl' ha
      refine ⟨b, hb, ?_, fun z => ?_, fun p hp => ?_⟩
      · unfold PySem.W.minD at e ⊢
        rw [List.map_cons, List.foldl_cons, lt_kl, if_pos (decide_eq_true h)]
        exact e
      · exact h1 (keyLt_trans h z)
      · rcases List.mem_cons.mp hp with rfl | hp
        · exact h1
        · exact h2 p hp
    · obtain ⟨b, hb, e, h1, h2⟩ := minD_best S l o hl' ho
      refine ⟨b, hb, ?_, h1, fun p hp => ?_⟩
      · unfold PySem.W.minD at e ⊢
        rw [List.map_cons, List.foldl_cons, lt_kl, if_neg (by simpa using h)]
        exact e
      · rcases List.mem_cons.mp hp with rfl | hp
        · intro z
          by_cases hz : kl o b
          · exact h1 hz
          · by_cases hz2 : kl b o
            · exact h (keyLt_trans z hz2)
            · have := nts_inj (keyLt_tot hz hz2).2
              rw [this] at h
              exact h z
        · exact h2 p hp
/-- min of (sum, own) over what weighs t is the least -/
theorem due_best {wt : List Nat → Int} {S : List (List Nat)} {t : Int} {o : List Nat} {l : List (List Nat)} (h : S.filter (fun o => decide (wt o = t)) = o :: l) : ∃ b, Best wt S t b ∧ minTy (.tup [.int, .seq .int]) [.list (((o :: l)).map keyD)] = some (keyD b) := by
  have hm : ∀ p, p ∈ o :: l ↔ p ∈ S ∧ wt p = t := fun p => by rw [← h, List.mem_filter, decide_eq_true_eq]
  obtain ⟨b, hb, e, h1, h2⟩ := minD_best (o :: l) l o (fun p hp => List.mem_cons_of_mem _ hp) List.mem_cons_self
  refine ⟨b, ⟨((hm b).mp hb).1, ((hm b).mp hb).2, fun p hp e' => ?_⟩, ?_⟩
  · rcases List.mem_cons.mp ((hm p).mpr ⟨hp, e'⟩) with rfl | hp
    · exact h1
    · exact h2 p hp
  · have a1 : ∀ o, hasTy (.tup [.int, .seq .int]) (keyD o) = true := fun o => by simp [keyD, cD, hasTy, hasTys, nD]
    have a2 : ∀ o, shp 8 (keyD o) = true := fun o => by simp [keyD, cD, nD]
    show (if ((keyD o :: l.map keyD).all (hasTy (.tup [.int, .seq .int])) && (keyD o :: l.map keyD).all (shp 8)) = true then some (PySem.W.minD (keyD o) (l.map keyD)) else none) = _
    rw [if_pos (by simp [a1, a2]), e]
/-! ### bad arguments -/
def odds : List PyData := [.none, .tuple [], .tuple [.tuple [.int 0, .int 1]], .tuple [.tuple [.int 100, .int 1]], .tuple [.tuple [.int 1, .int 21]], .tuple [.tuple [.int 1, .int (-1)]], .tuple [.tuple [.int 1]], .list [.tuple [.int 1, .int 1]], .tuple (List.replicate 7 (.tuple [.int 1, .int 1])), .tuple [.tuple [.int 1, .bool true]]]
def bads : List PyData := [.none, .int (-1), .int 1000, .bool true]
theorem odd_f {R : Ev.Row} {d : PyData} (h : d ∈ odds) : F_are_kinds [d] R = .ok (.bool false) R := by
  unfold odds at h
  simp only [List.mem_cons, List.mem_nil_iff, or_false] at h
  rcases h with rfl | rfl | rfl | rfl | rfl | rfl | rfl | rfl | rfl | rfl <;> rfl
theorem bad_f {R : Ev.Row} {d : PyData} (h : d ∈ bads) : F_is_whole [d, .int 0, .int 999] R = .ok (.bool false) R := by
  unfold bads at h
  simp only [List.mem_cons, List.mem_nil_iff, or_false] at h
  rcases h with rfl | rfl | rfl | rfl <;> rfl
theorem ways_odd {R : Ev.Row} {d e : PyData} (h : d ∈ odds) : F_ways [d, e] R = .exc "kinds" R := by
  unfold F_ways den_ways
  simp [callF_def, odd_f h]
theorem fewest_odd {R : Ev.Row} {d e : PyData} (h : d ∈ odds) : F_fewest [d, e] R = .exc "kinds" R := by
  unfold F_fewest den_fewest
  simp [callF_def, odd_f h]
theorem choice_odd {R : Ev.Row} {d e v : PyData} (h : d ∈ odds) : F_is_choice [d, e, v] R = .exc "kinds" R := by
  unfold F_is_choice den_is_choice
  simp [callF_def, odd_f h]
theorem ways_bad {ks : List (Int × Nat)} {R : Ev.Row} {d : PyData} (hk : Ok ks) (h : d ∈ bads) : F_ways [ksD ks, d] R = .exc "load" R := by
  unfold F_ways den_ways
  simp [callF_def, are_kinds_t hk, bad_f h]
theorem fewest_bad {ks : List (Int × Nat)} {R : Ev.Row} {d : PyData} (hk : Ok ks) (h : d ∈ bads) : F_fewest [ksD ks, d] R = .exc "load" R := by
  unfold F_fewest den_fewest
  simp [callF_def, are_kinds_t hk, bad_f h]
theorem choice_bad {ks : List (Int × Nat)} {R : Ev.Row} {d v : PyData} (hk : Ok ks) (h : d ∈ bads) : F_is_choice [ksD ks, d, v] R = .exc "load" R := by
  unfold F_is_choice den_is_choice
  simp [callF_def, are_kinds_t hk, bad_f h]
theorem taken_s {R : Ev.Row} {n : Int} (hR : RowOk R) (h0 : 0 < n) (h1 : n < 1073741824) : Ends (F__law_taken [rowD, .int n] R) (fun d R' => ∃ v : Nat, d = .int (v : Int) ∧ (v : Int) < n ∧ RowOk R') FX :=
  (Sh.taken_spec R n hR h0 h1).mono (fun d R' ⟨v, e, a, b, c⟩ => ⟨v.toNat, by rw [e]; congr 1; omega, by omega, c⟩) fun _ _ z => z
theorem pick_s {R : Ev.Row} {xs : List PyData} (hR : RowOk R) (h0 : xs ≠ []) (h1 : xs.length < 1073741824) : Ends (F__law_pick [rowD, .list xs] R) (fun d R' => d ∈ xs ∧ RowOk R') FX := Sh.pick_spec hR h0 h1
theorem refused_exc {d : Den} {ρ : Ev.Env} {R R' : Ev.Row} {nm : Str} (h : d ρ R = .exc nm R') : dRefused d ρ R = .ok (.str nm) R' := by
  unfold dRefused
  rw [h]
theorem ite_ok {α : Type} {c : Prop} [Decidable c] {a b : α} {R : Ev.Row} : (if c then Res.ok a R else Res.ok b R) = Res.ok (if c then a else b) R := by split <;> rfl
theorem drawn {o : List PyData} (C : Int × Nat → Prop) (h : ∀ x ∈ o, ∃ k, x = kD k ∧ C k) : ∃ ks : List (Int × Nat), o = ks.map kD ∧ ∀ k ∈ ks, C k := by
  induction o with
  | nil => exact ⟨[], rfl, fun k hk => by simp at hk⟩
  | cons x o ih =>
    obtain ⟨ks, e, hk⟩ := ih fun y hy => h y (List.mem_cons_of_mem _ hy)
    obtain ⟨k, e1, h1⟩ := h x List.mem_cons_self
    refine ⟨k :: ks, by rw [e, e1]; rfl, fun q hq => ?_⟩
    rcases List.mem_cons.mp hq with rfl | hq
    · exact h1
    · exact hk q hq
/-- the part behind the turns: wrong values, refused calls -/
theorem tail_spec {ks : List (Int × Nat)} {R : Ev.Row} {a1 a3 a4 a5 a6 a7 a8 a9 a10 a11 a12 a13 a14 a15 a16 a17 : Option PyData} (hk : Ok ks) (hR : RowOk R) :
    Ends (den__law_case_18 [some rowD, a1, some (ksD ks), a3, a4, a5, a6, a7, a8, a9, a10, a11, a12, a13, a14, a15, a16, a17] R) (fun fl R' => fl = .rt (.bool true) ∧ RowOk R') FX := by
  have h4 := hk.len
  have lk : lenD [ksD ks] = some (.int ks.length) := by simp [ksD]
  have g1 : 1 ≤ (ks.length : Int) ∧ (ks.length : Int) ≤ 1000 := by omega
  unfold den__law_case_18
  simp [lk, g1, flat_rep]
  unfold den__law_case_17
  have g2 : ks.length + 1 ≤ sizeLine := small_sz (by omega)
  have ib : ∀ d : PyData, dataD d = true → (∀ xs, d = .tuple xs → xs.length ≤ 1000000) → Sh.areWholesD d ks.length 0 20 = false → F_is_choice [ksD ks, .int 0, d] R = .ok (.bool false) R := fun d h1 h2 h3 => ic_bad hk (by decide) h1 h2 h3
  have dr : ∀ (n : Nat) (x : PyData), dataD x = true → dataA (List.replicate n x) = true := fun n x hx => by
    induction n with
    | zero => rfl
    | succ n ih => rw [List.replicate_succ]; simp [dataA, hx, ih]
  have hpos : ks.length ≠ 0 := by omega
  simp [lk, g1, flat_rep, g2]
  rw [Sh.compM_map (g := fun _ => .bool false) fun d hd => ?_]
  · simp
    unfold den__law_case_16
    simp
    refine Ends.step (pick_s hR (by simp) (by simp)) fun odd R1 ⟨hodd, hR1⟩ => ?_
    have hodd : odd ∈ odds := by simpa [odds] using hodd
    unfold den__law_case_15
    simp
    refine Ends.step (pick_s hR1 (by simp) (by simp)) fun bad R2 ⟨hbad, hR2⟩ => ?_
    have hbad : bad ∈ bads := by simpa [bads] using hbad
    unfold den__law_case_14
    simp [dRefused, ways_odd hodd, ways_bad hk hbad, fewest_odd hodd, fewest_bad hk hbad, choice_odd hodd, choice_bad hk hbad]
    unfold den__law_case_13
    have q1 : eqD (.list [.bool false, .bool false, .bool false, .bool false, .bool false]) (.list [.bool false, .bool false, .bool false, .bool false, .bool false]) = some (.bool true) := rfl
    have q2 : eqD (.list [.str "kinds", .str "load", .str "kinds", .str "load", .str "kinds", .str "load"]) (.list [.str "kinds", .str "load", .str "kinds", .str "load", .str "kinds", .str "load"]) = some (.bool true) := by
      have o1 : PyData.strOk ("kinds" : Str) = true := by decide +kernel
      have o2 : PyData.strOk ("load" : Str) = true := by decide +kernel
      simp [eqD, PyData.eqv, PyData.eqvAll, o1, o2]
    simp [flat_rep, q1, q2, List.replicate_succ, hR2]
  · have : F_is_choice [ksD ks, .int 0, d] R = .ok (.bool false) R := by
      simp only [List.mem_cons, List.mem_nil_iff, or_false] at hd
      rcases hd with rfl | rfl | rfl | rfl | rfl
      · exact ib _ rfl (fun _ e => by cases e) rfl
      · exact ib _ (dr _ _ rfl) (fun _ e => by cases e) rfl
      · refine ib _ ?_ (fun xs e => by cases e; simp; omega) (by simp [Sh.areWholesD]; intro h; omega)
        rw [← List.replicate_succ']
        exact dr _ _ rfl
      · refine ib _ (dr _ _ rfl) (fun xs e => by cases e; simp; omega) (by simp [Sh.areWholesD, Sh.isWholeD, hpos])
      · refine ib _ (dr _ _ rfl) (fun xs e => by cases e; simp; omega) (by simp [Sh.areWholesD, Sh.isWholeD, hpos])
    simp [this]
end K25

namespace K25
open PySem PySem.Spec Ev
/-- the choices that weigh L -/
def some_ (ks : List (Int × Nat)) (L : Int) : List (List Nat) := (choices ks).filter fun o => decide (weight ks o = L)
theorem choice_le {ks : List (Int × Nat)} (hk : Ok ks) {o : List Nat} (ho : o ∈ choices ks) : ∀ n ∈ o, n ≤ 5 := by
  intro n hn
  obtain ⟨h1, h2⟩ := (mem_choices ks o).mp ho
  obtain ⟨i, hi, rfl⟩ := List.mem_iff_getElem.mp hn
  unfold fits at h2
  rw [List.all_eq_true] at h2
  have hz : i < (o.zip ks).length := by rw [List.length_zip]; omega
  have h3 := h2 _ (List.getElem_mem hz)
  rw [List.getElem_zip] at h3
  have h3 := of_decide_eq_true h3
  have h4 := (hk.w (ks[i]'(by omega)) (List.getElem_mem _)).2.2
  exact Nat.le_trans h3 h4
theorem nts_eq {o p : List Nat} : nts o = nts p ↔ o = p := ⟨nts_inj, fun h => by rw [h]⟩
theorem in_some {ks : List (Int × Nat)} {L : Int} {o : List Nat} (ho : o.length = ks.length) : inSq (cD o) (.list ((some_ ks L).map cD)) = some (fits ks o && decide (weight ks o = L)) := by
  have h1 : ∀ n o, shp (n + 2) (cD o) = true := fun n o => by simp [cD, nD]
  show (if (shp 9 (cD o) && shp 9 (.list ((some_ ks L).map cD))) = true then some (((some_ ks L).map cD).any fun z => PyData.eqv z (cD o)) else none) = _
  rw [if_pos (by rw [h1 7]; simp [h1 6]), List.any_map]
  congr 1
  rw [Bool.eq_iff_iff, List.any_eq_true, Bool.and_eq_true, decide_eq_true_eq]
  constructor
  · rintro ⟨p, hp, e⟩
    have e : PyData.eqv (cD p) (cD o) = true := e
    rw [cD_nts, cD_nts, eqv_row, decide_eq_true_eq, nts_eq] at e
    subst e
    obtain ⟨h2, h3⟩ := List.mem_filter.mp hp
    exact ⟨((mem_choices ks p).mp h2).2, of_decide_eq_true h3⟩
  · rintro ⟨h2, h3⟩
    refine ⟨o, List.mem_filter.mpr ⟨(mem_choices ks o).mpr ⟨ho, h2⟩, decide_eq_true h3⟩, ?_⟩
    show PyData.eqv (cD o) (cD o) = true
    rw [cD_nts, eqv_row]
    simp
theorem part1 {ks : List (Int × Nat)} {R : Ev.Row} {L : Nat} {o : List Nat} {a1 a3 a4 a5 a6 a7 a8 a9 a12 a13 a14 a16 a17 : Option PyData} (hk : Ok ks) (hL : L ≤ 999) (ho : o.length = ks.length) (hb : ∀ n ∈ o, n ≤ 20) :
    den__law_case_1 [some rowD, a1, some (ksD ks), a3, a4, a5, a6, a7, a8, a9, some (.int (L : Int)), some (.list ((some_ ks L).map cD)), a12, a13, a14, some (.list (o.map nD)), a16, a17] R = .ok (.nx [some rowD, a1, some (ksD ks), a3, a4, a5, a6, a7, a8, a9, some (.int (L : Int)), some (.list ((some_ ks L).map cD)), a12, a13, a14, some (.list (o.map nD)), a16, a17]) R := by
  have e1 : F_is_choice [ksD ks, .int (L : Int), .tuple (o.map nD)] R = _ := ic_good hk (by omega) ho hb
  have e2 : inSq (.tuple (o.map nD)) (.list ((some_ ks L).map cD)) = _ := in_some (L := (L : Int)) ho
  unfold den__law_case_1
  simp [e1, e2]
/-- the body of the spoiled choices -/
theorem part4 {ks : List (Int × Nat)} {R : Ev.Row} {L : Nat} {a1 a4 a5 a6 a7 a8 a9 a12 a13 a14 a15 a16 a17 : Option PyData} (hk : Ok ks) (hL : L ≤ 999) (hR : RowOk R) (cne : choices ks ≠ []) :
    Ends (den__law_case_4 [some rowD, a1, some (ksD ks), some (.list ((choices ks).map cD)), a4, a5, a6, a7, a8, a9, some (.int (L : Int)), some (.list ((some_ ks L).map cD)), a12, a13, a14, a15, a16, a17] R)
      (fun fl R' => RowOk R' ∧ ∃ a15 a16, fl = .nx [some rowD, a1, some (ksD ks), some (.list ((choices ks).map cD)), a4, a5, a6, a7, a8, a9, some (.int (L : Int)), some (.list ((some_ ks L).map cD)), a12, a13, a14, a15, a16, a17]) FX := by
  have cs := choices_small (pre := ks) (suf := []) hk (by simp)
  have h4 := hk.len
  have ss : (some_ ks L).length ≤ 1296 := Nat.le_trans (List.length_filter_le _ _) cs
  have s1 : (some_ ks L).length + 1 ≤ sizeLine := small_sz (by omega)
  unfold den__law_case_4
  simp
  refine Ends.step (pick_s hR (by simpa using cne) (by rw [List.length_map]; omega)) fun c R1 ⟨hc, hR1⟩ => ?_
  obtain ⟨c, hc1, rfl⟩ := List.mem_map.mp hc
  simp [s1]
  refine Ends.step (pick_s hR1 (by simp) (by simp; omega)) fun o R2 ⟨ho, hR2⟩ => ?_
  obtain ⟨o, ho1, rfl⟩ : ∃ p ∈ choices ks, o = cD p := by
    rcases List.mem_append.mp ho with ho | ho
    · obtain ⟨p, hp, rfl⟩ := List.mem_map.mp ho
      exact ⟨p, (List.mem_filter.mp hp).1, rfl⟩
    · rw [List.mem_singleton.mp ho]
      exact ⟨c, hc1, rfl⟩
  have ol := mem_choices_len ks o ho1
  have ob := choice_le hk ho1
  simp [cD]
  unfold den__law_case_3
  simp
  refine Ends.step (taken_s hR2 (by omega) (by omega)) fun v R3 ⟨i, e, hi, hR3⟩ => ?_
  subst e
  have hi : i < o.length := by omega
  simp [pureD]
  unfold den__law_case_2
  simp [atI_map (f := nD) hi]
  refine Ends.step (taken_s hR3 (by decide) (by decide)) fun v R4 ⟨j, e, hj, hR4⟩ => ?_
  subst e
  have em : (if (((o[i]'hi : Nat) : Int) + (j : Int) - 1) > 0 then (((o[i]'hi : Nat) : Int) + (j : Int) - 1) else 0) = ((o[i]'hi + j - 1 : Nat) : Int) := by split <;> omega
  have es : (o.map nD).set i (.int ((o[i]'hi + j - 1 : Nat) : Int)) = (o.set i (o[i]'hi + j - 1)).map nD := by rw [List.map_set]; rfl
  have hb5 := ob _ (List.getElem_mem hi)
  have h20 : ∀ n ∈ o.set i (o[i]'hi + j - 1), n ≤ 20 := fun n hn => by
    rcases List.mem_or_eq_of_mem_set hn with h | h
    · have := ob n h; omega
    · omega
  have p1 := part1 (R := R4) (a1 := a1) (a3 := some (.list ((choices ks).map cD))) (a4 := a4) (a5 := a5) (a6 := a6) (a7 := a7) (a8 := a8) (a9 := a9) (a12 := a12) (a13 := a13) (a14 := a14) (a16 := some (.int (i : Int))) (a17 := a17) hk hL (o := o.set i (o[i]'hi + j - 1)) (by rw [List.length_set]; exact ol) h20
  simp only [nD, addD_i, subD_i, max2_i, ofO_some, bind_ok, em, pureD, if_true, ixN_nat hi]
  rw [show (List.map nD o).set i (PyData.int ((o[i]'hi + j - 1 : Nat) : Int)) = _ from es, p1]
  exact ⟨hR4, _, _, rfl⟩
end K25

namespace K25
open PySem PySem.Spec Ev
/-- the three spoiled choices -/
theorem part5 {ks : List (Int × Nat)} {R : Ev.Row} {L : Nat} {a1 a4 a5 a6 a7 a8 a9 a12 a13 a14 a15 a16 a17 : Option PyData} (hk : Ok ks) (hL : L ≤ 999) (hR : RowOk R) (cne : choices ks ≠ []) :
    Ends (den__law_case_5 [some rowD, a1, some (ksD ks), some (.list ((choices ks).map cD)), a4, a5, a6, a7, a8, a9, some (.int (L : Int)), some (.list ((some_ ks L).map cD)), a12, a13, a14, a15, a16, a17] R)
      (fun fl R' => RowOk R' ∧ ∃ a14 a15 a16, fl = .nx [some rowD, a1, some (ksD ks), some (.list ((choices ks).map cD)), a4, a5, a6, a7, a8, a9, some (.int (L : Int)), some (.list ((some_ ks L).map cD)), a12, a13, a14, a15, a16, a17]) FX := by
  unfold den__law_case_5
  simp [rng1_s (j := 3) (by omega) (by omega)]
  refine (for_range (lo := 0) (n := 3) (fun k ρ R' => RowOk R' ∧ ∃ a14 a15 a16, ρ = [some rowD, a1, some (ksD ks), some (.list ((choices ks).map cD)), a4, a5, a6, a7, a8, a9, some (.int (L : Int)), some (.list ((some_ ks L).map cD)), a12, a13, a14, a15, a16, a17]) ⟨hR, _, _, _, rfl⟩ fun k ρ R1 hk2 ⟨hR1, b14, b15, b16, hρ⟩ => ?_).mono (fun fl R2 ⟨ρ', e, h1, b14, b15, b16, h2⟩ => ?_) fun _ _ z => z
  · subst hρ
    simp
    refine (part4 hk hL hR1 cne).mono (fun fl R2 ⟨h1, b15, b16, h2⟩ => ⟨_, h2, h1, _, _, _, rfl⟩) fun _ _ z => z
  · subst e h2
    exact ⟨h1, _, _, _, rfl⟩
theorem plain_c (o : List Nat) (h : o.length ≤ 1000000) : Sh.plainD 8 (cD o) = true := by
  simp [cD, Sh.plainD, nD, h]
theorem alike_t {d : PyData} {R : Ev.Row} (h : Sh.plainD 8 d = true) : F__law_alike 8 [d, d] R = .ok (.bool true) R := by
  rw [alike_eq]
  exact Sh.alike_true 8 d R h
theorem choices_ne (ks : List (Int × Nat)) : choices ks ≠ [] := by
  have h : ks.map (fun _ => 0) ∈ choices ks := by
    rw [mem_choices]
    refine ⟨by simp, ?_⟩
    unfold fits
    rw [List.all_eq_true]
    rintro ⟨a, b⟩ hp
    have := (List.of_mem_zip hp).1
    simp at this
    simp [← this.2]
  exact List.ne_nil_of_mem h
def oD : Option (List Nat) → PyData
  | none => .none
  | some b => cD b
/-- what fewest tells -/
theorem fewest_val {ks : List (Int × Nat)} {L : Nat} {R : Ev.Row} (h : Ok ks) (hL : L ≤ 999) :
    ∃ r : Option (List Nat), F_fewest [ksD ks, .int (L : Int)] R = .ok (oD r) R ∧ (r = none → some_ ks L = []) ∧ ∀ b, r = some b → Best (weight ks) (choices ks) L b := by
  obtain ⟨D, T, e⟩ := fewest_spec (R := R) h hL
  cases hf : D.find? fun p => decide (p.1 = (L : Int)) with
  | none =>
    refine ⟨none, by rw [e, hf]; rfl, fun _ => ?_, fun b hb => by cases hb⟩
    unfold some_
    rw [List.filter_eq_nil_iff]
    intro o ho hw
    have hw := of_decide_eq_true hw
    obtain ⟨b, hb⟩ := T.all o ho (by omega)
    exact find_no.mp hf _ hb hw
  | some p =>
    have hp1 := of_decide_eq_true (List.find?_some (p := fun p : Int × List Nat => decide (p.1 = (L : Int))) hf)
    have hp2 := List.mem_of_find?_eq_some hf
    refine ⟨some p.2, by rw [e, hf]; rfl, ⟨(fun z => nomatch z), fun b hb => ?_⟩⟩
    cases hb
    have := (T.ok p hp2).2
    rw [hp1] at this
    exact this
theorem sum_c (o : List Nat) : sumD [cD o] = some (.int (sm o)) := by
  rw [cD_nts]
  show (if ((nts o).map PyData.int).all isInt = true then some (PyData.int (((nts o).map PyData.int).map intOf).sum) else none) = _
  rw [if_pos (by simp), ints_of]
  rfl
/-- one turn from the load on -/
theorem part10 {ks : List (Int × Nat)} {R : Ev.Row} {L : Nat} {a1 a4 a5 a6 a7 a8 a9 a11 a12 a13 a14 a15 a16 a17 : Option PyData} (hk : Ok ks) (hL : L ≤ 999) (hR : RowOk R) :
    Ends (den__law_case_10 [some rowD, a1, some (ksD ks), some (.list ((choices ks).map cD)), a4, a5, a6, a7, a8, a9, some (.int (L : Int)), a11, a12, a13, a14, a15, a16, a17] R)
      (fun fl R' => RowOk R' ∧ ∃ a10 a11 a12 a13 a14 a15 a16, fl = .nx [some rowD, a1, some (ksD ks), some (.list ((choices ks).map cD)), a4, a5, a6, a7, a8, a9, a10, a11, a12, a13, a14, a15, a16, a17]) FX := by
  have cs := choices_small (pre := ks) (suf := []) hk (by simp)
  have h4 := hk.len
  have ss : (some_ ks L).length ≤ 1296 := Nat.le_trans (List.length_filter_le _ _) cs
  have hsz : (some_ ks L).length ≤ sizeLine := small_sz (by omega)
  unfold den__law_case_10
  simp
  rw [compM_map2 (g := fun o => if decide (weight ks o = (L : Int)) then [cD o] else []) fun o ho => ?_]
  · rw [flat_if]
    have es : List.map cD (List.filter (fun o => decide (weight ks o = (L : Int))) (choices ks)) = (some_ ks L).map cD := rfl
    simp only [bind_ok, es, List.length_map, hsz, if_true]
    unfold den__law_case_9
    have ew : cnt ks (L : Int) = (some_ ks L).length := rfl
    simp [ways_spec hk hL, ew, alike_t (d := .int ((some_ ks L).length : Int)) rfl]
    unfold den__law_case_8
    obtain ⟨r, er, r1, r2⟩ := fewest_val (R := R) hk hL
    have p7 : ∀ a12 : Option PyData, a12 = some (oD r) → Ends (den__law_case_7 [some rowD, a1, some (ksD ks), some (.list ((choices ks).map cD)), a4, a5, a6, a7, a8, a9, some (.int (L : Int)), some (.list ((some_ ks L).map cD)), a12, a13, a14, a15, a16, a17] R)
      (fun fl R' => RowOk R' ∧ ∃ a10 a11 a12 a13 a14 a15 a16, fl = .nx [some rowD, a1, some (ksD ks), some (.list ((choices ks).map cD)), a4, a5, a6, a7, a8, a9, a10, a11, a12, a13, a14, a15, a16, a17]) FX := by
      intro a12 h12
      subst h12
      unfold den__law_case_7
      simp [er]
      unfold den__law_case_6
      have al : F__law_alike 8 [oD r, oD r] R = .ok (.bool true) R := by
        cases r with
        | none => exact alike_t rfl
        | some b => exact alike_t (plain_c b (by have := mem_choices_len ks b (r2 b rfl).1; omega))
      have ic : noneD (oD r) = false → F_is_choice [ksD ks, .int (L : Int), oD r] R = .ok (.bool true) R := by
        intro hn
        cases r with
        | none => exact absurd hn (by decide)
        | some b =>
          obtain ⟨b1, b2, _⟩ := r2 b rfl
          have ol := mem_choices_len ks b b1
          have e1 : F_is_choice [ksD ks, .int (L : Int), cD b] R = _ := ic_good hk (by omega) ol (fun n hn => Nat.le_trans (choice_le hk b1 n hn) (by decide))
          rw [((mem_choices ks b).mp b1).2, decide_eq_true b2] at e1
          exact e1
      cases hn : noneD (oD r) with
      | true => simp [al, hn]; exact (part5 hk hL hR (choices_ne ks)).mono (fun fl R' ⟨h1, b14, b15, b16, h2⟩ => ⟨h1, _, _, _, _, _, _, _, h2⟩) fun _ _ z => z
      | false => simp [al, hn, ic hn]; exact (part5 hk hL hR (choices_ne ks)).mono (fun fl R' ⟨h1, b14, b15, b16, h2⟩ => ⟨h1, _, _, _, _, _, _, _, h2⟩) fun _ _ z => z
    cases hs : some_ ks L with
    | nil =>
      have hr : r = none := by
        cases r with
        | none => rfl
        | some b =>
          obtain ⟨b1, b2, _⟩ := r2 b rfl
          have : b ∈ some_ ks L := List.mem_filter.mpr ⟨b1, decide_eq_true b2⟩
          rw [hs] at this
          cases this
      have ne0 : neD (.list []) (.list []) = some (.bool false) := rfl
      have := p7 (some .none) (by rw [hr]; rfl)
      rw [hs] at this
      simp [ne0]
      simpa using this
    | cons o l =>
      obtain ⟨b, hb, em⟩ := due_best (show (choices ks).filter (fun o => decide (weight ks o = (L : Int))) = o :: l from hs)
      have hr : r = some b := by
        cases r with
        | none => have := r1 rfl; rw [hs] at this; cases this
        | some b' => rw [best_one (r2 b' rfl) hb]
      have h1 : ∀ n o, shp (n + 2) (cD o) = true := fun n o => by simp [cD, nD]
      have ne1 : neD (.list ((o :: l).map cD)) (.list []) = some (.bool true) := by
        show (if (shp 9 (.list ((o :: l).map cD)) && shp 9 (.list [])) = true then some (PyData.bool (!PyData.eqv (.list ((o :: l).map cD)) (.list []))) else none) = _
        rw [if_pos (by simp [h1 6])]
        simp [PyData.eqv, PyData.eqvAll]
      have := p7 (some (cD b)) (by rw [hr]; rfl)
      rw [hs] at this
      have ls : (o :: l).length ≤ sizeLine := by rw [← hs]; exact hsz
      have i1 : idxD (keyD b) (.int 1) = some (cD b) := by simp [keyD]
      have cm : ∀ ρ : Ev.Env, compM (turnC (gSet 15) [15] bYes (dTup (lCons (dBlt sumD (lCons (dVar 15) lNil)) (lCons (dVar 15) lNil))) [some rowD, a1, some (ksD ks), some (.list ((choices ks).map cD)), a4, a5, a6, a7, a8, a9, some (.int (L : Int)), some (.list ((o :: l).map cD)), a12, a13, a14, a15, a16, a17]) ((o :: l).map cD) R = .ok ((o :: l).map keyD) R := fun _ => by
        rw [compM_map2 (g := fun o => [keyD o]) fun p hp => by simp [sum_c, keyD], flat_one]
      simp only [sSeq_ap, sAsgM_ap, wipe_nil, dIf_ap, dTB_ap, dBin_ap, dVar_ap, dLst_ap, nLst_ap, lNil_ap, bind_ok, ofO_some, List.length_nil, Nat.zero_le, if_true, dBlt_ap, lCons_ap, nComp_ap, lSeq_ap, seqD_l]
      simp [ne1, -List.map_cons]
      rw [cm []]
      simp [ls, em, i1, -List.map_cons]
      have ls2 : l.length + 1 ≤ sizeLine := ls
      simpa [ls2] using this
  · have ol := mem_choices_len ks o ho
    have ob := choice_le hk ho
    by_cases hw : weight ks o = (L : Int)
    · simp [weight_spec hk ol (fun n hn => Nat.le_trans (ob n hn) (by decide)), hw]
    · simp [weight_spec hk ol (fun n hn => Nat.le_trans (ob n hn) (by decide)), hw]
theorem part11 {ks : List (Int × Nat)} {R : Ev.Row} {z : Int} {a1 a4 a5 a6 a7 a8 a9 a11 a12 a13 a14 a15 a16 a17 : Option PyData} (hk : Ok ks) (hz : 0 ≤ z) (hR : RowOk R) :
    Ends (den__law_case_11 [some rowD, a1, some (ksD ks), some (.list ((choices ks).map cD)), a4, a5, a6, a7, a8, a9, some (.int z), a11, a12, a13, a14, a15, a16, a17] R)
      (fun fl R' => RowOk R' ∧ ∃ a10 a11 a12 a13 a14 a15 a16, fl = .nx [some rowD, a1, some (ksD ks), some (.list ((choices ks).map cD)), a4, a5, a6, a7, a8, a9, a10, a11, a12, a13, a14, a15, a16, a17]) FX := by
  unfold den__law_case_11
  simp
  split
  · obtain ⟨L, rfl⟩ : ∃ L : Nat, z = (L : Int) := ⟨z.toNat, by omega⟩
    exact part10 hk (by omega) hR
  · exact part10 (L := 999) hk (by omega) hR
theorem part12 {ks : List (Int × Nat)} {R : Ev.Row} {a1 a4 a5 a6 a7 a8 a9 a10 a11 a12 a13 a14 a15 a16 a17 : Option PyData} (hk : Ok ks) (hR : RowOk R) :
    Ends (den__law_case_12 [some rowD, a1, some (ksD ks), some (.list ((choices ks).map cD)), a4, a5, a6, a7, a8, a9, a10, a11, a12, a13, a14, a15, a16, a17] R)
      (fun fl R' => RowOk R' ∧ ∃ a10 a11 a12 a13 a14 a15 a16, fl = .nx [some rowD, a1, some (ksD ks), some (.list ((choices ks).map cD)), a4, a5, a6, a7, a8, a9, a10, a11, a12, a13, a14, a15, a16, a17]) FX := by
  have cs := choices_small (pre := ks) (suf := []) hk (by simp)
  unfold den__law_case_12
  simp
  refine Ends.step (pick_s hR (by simpa using choices_ne ks) (by rw [List.length_map]; omega)) fun c R1 ⟨hc, hR1⟩ => ?_
  obtain ⟨o, ho, rfl⟩ := List.mem_map.mp hc
  have ol := mem_choices_len ks o ho
  have hw := weight_pos (fun k hk' => (hk.w k hk').1) o
  simp [weight_spec hk ol (fun n hn => Nat.le_trans (choice_le hk ho n hn) (by decide))]
  refine Ends.step (taken_s hR1 (by decide) (by decide)) fun v R2 ⟨t, e, ht, hR2⟩ => ?_
  subst e
  refine Ends.step (pick_s hR2 (by simp) (by simp)) fun v R3 ⟨hv, hR3⟩ => ?_
  obtain ⟨z, rfl, hz⟩ : ∃ z : Int, v = .int z ∧ 0 ≤ z := by
    simp only [List.mem_cons, List.mem_nil_iff, or_false] at hv
    rcases hv with rfl | rfl | rfl
    · exact ⟨_, rfl, by decide⟩
    · exact ⟨_, rfl, hw⟩
    · exact ⟨_, rfl, by omega⟩
  exact part11 hk hz hR3
theorem part19 {ks : List (Int × Nat)} {R : Ev.Row} {a1 a4 a5 a6 a7 a8 a9 a10 a11 a12 a13 a14 a15 a16 a17 : Option PyData} (hk : Ok ks) (hR : RowOk R) :
    Ends (den__law_case_19 [some rowD, a1, some (ksD ks), some (.list ((choices ks).map cD)), a4, a5, a6, a7, a8, a9, a10, a11, a12, a13, a14, a15, a16, a17] R) (fun fl R' => fl = .rt (.bool true) ∧ RowOk R') FX := by
  unfold den__law_case_19
  simp [rng1_s (j := 3) (by omega) (by omega)]
  refine Ends.step (for_range (lo := 0) (n := 3) (fun k ρ R' => RowOk R' ∧ ∃ a4 a5 a6 a7 a8 a9 a10 a11 a12 a13 a14 a15 a16 a17, ρ = [some rowD, a1, some (ksD ks), some (.list ((choices ks).map cD)), a4, a5, a6, a7, a8, a9, a10, a11, a12, a13, a14, a15, a16, a17]) ⟨hR, _, _, _, _, _, _, _, _, _, _, _, _, _, _, rfl⟩ fun k ρ R1 hk2 ⟨hR1, b4, b5, b6, b7, b8, b9, b10, b11, b12, b13, b14, b15, b16, b17, hρ⟩ => ?_) fun fl R2 ⟨ρ', e, h1, b4, b5, b6, b7, b8, b9, b10, b11, b12, b13, b14, b15, b16, b17, h2⟩ => ?_
  · subst hρ
    simp
    exact (part12 hk hR1).mono (fun fl R2 ⟨h1, b10, b11, b12, b13, b14, b15, b16, h2⟩ => ⟨_, h2, h1, _, _, _, _, _, _, _, _, _, _, _, _, _, _, rfl⟩) fun _ _ z => z
  · subst e h2
    exact tail_spec hk h1
theorem case_spec {R : Ev.Row} (hR : RowOk R) : Ends (F__law_case [rowD] R) (fun d R' => d = .bool true ∧ RowOk R') FX := by
  unfold F__law_case den__law_case
  simp [callF_def]
  refine Ends.step (pick_s hR (by simp) (by simp)) fun v R1 ⟨hv, hR1⟩ => ?_
  obtain ⟨heavy, rfl, hh⟩ : ∃ z : Int, v = .int z ∧ (0 < z ∧ z ≤ 99) := by
    simp only [List.mem_cons, List.mem_nil_iff, or_false] at hv
    rcases hv with rfl | rfl | rfl <;> exact ⟨_, rfl, by decide⟩
  unfold den__law_case_21
  simp
  refine Ends.step (taken_s hR1 (by decide) (by decide)) fun v R2 ⟨n, e, hn, hR2⟩ => ?_
  subst e
  simp [rng1_s (j := 1 + (n : Int)) (by omega) (by omega)]
  have h1 := comp_draw (fun k : Nat => PyData.int (0 + (k : Int))) (f := turnC (gSet 16) [16] bYes (dTup (lCons (dBin addD (dC (.int 1)) (dCallF F__law_taken (lCons (dVar 0) (lCons (dVar 1) lNil)))) (lCons (dCallF F__law_taken (lCons (dVar 0) (lCons (dCallF F__law_pick (lCons (dVar 0) (lCons (dLst (nLst (lCons (dC (.int 2)) (lCons (dC (.int 6)) lNil)))) lNil))) lNil))) lNil))) [some rowD, some (.int heavy), none, none, none, none, none, none, none, none, none, none, none, none, none, none, none, none]) (fun R => RowOk R) (fun x => ∃ k : Int × Nat, x = kD k ∧ (1 ≤ k.1 ∧ k.1 ≤ 99 ∧ k.2 ≤ 5)) (l := List.range (1 + (n : Int)).toNat) (R := R2) hR2 fun d hd R hR => ?_
  · refine Ends.step h1 fun o R3 ⟨ol, hp, hR3⟩ => ?_
    obtain ⟨ks, rfl, hks⟩ := drawn _ hp
    rw [List.length_range, List.length_map] at ol
    have hk : Ok ks := ⟨by omega, hks⟩
    have l1 : ks.length ≤ sizeLine := small_sz (by omega)
    simp [l1]
    unfold den__law_case_20
    have cs := choices_spec (R := R3) hk
    simp only [ksD] at cs
    simp [cs]
    refine Ends.step (part19 hk hR3) fun fl R4 ⟨e, hR4⟩ => ?_
    subst e
    exact ⟨rfl, hR4⟩
  · simp
    refine Ends.step (taken_s hR hh.1 (by omega)) fun v R4 ⟨w, e, hw, hR4⟩ => ?_
    subst e
    simp
    refine Ends.step (pick_s hR4 (by simp) (by simp)) fun v R5 ⟨hv, hR5⟩ => ?_
    obtain ⟨z, rfl, hz⟩ : ∃ z : Int, v = .int z ∧ (0 < z ∧ z ≤ 6) := by
      simp only [List.mem_cons, List.mem_nil_iff, or_false] at hv
      rcases hv with rfl | rfl <;> exact ⟨_, rfl, by decide⟩
    refine Ends.step (taken_s hR5 hz.1 (by omega)) fun v R6 ⟨m, e, hm, hR6⟩ => ?_
    subst e
    simp
    exact ⟨⟨1 + w, m, rfl, by omega, by omega, by omega⟩, hR6⟩
theorem law_true : ∀ ns : List Int, ns.length ≤ 63 → (∀ z ∈ ns, Builtin.Int.intBits z ≤ 1048576) → ∃ R', den_law [none, some rowD, none] ⟨ns, 0, 25013, 0⟩ = .ok (.rt (.bool true)) R' := by
  intro ns _ _
  have h0 : RowOk ⟨ns, 0, 25013, 0⟩ := Int.le_refl 0
  have : Ends (den_law [none, some rowD, none] ⟨ns, 0, 25013, 0⟩) (fun fl R' => fl = .rt (.bool true)) FX := by
    unfold den_law
    simp [rng1_s (j := 4) (by omega) (by omega)]
    refine Ends.step (for_range (lo := 0) (n := 4) (fun k ρ R' => RowOk R' ∧ ∃ a, ρ = [none, some rowD, a]) ⟨h0, _, rfl⟩ fun k ρ R1 hk2 ⟨hR1, a, hρ⟩ => ?_) fun fl R2 ⟨ρ', e, h1, a, h2⟩ => ?_
    · subst hρ
      simp
      refine Ends.step (case_spec hR1) fun v R3 ⟨e, hR3⟩ => ?_
      subst e
      simp [hR3]
    · subst e h2
      simp
  cases e : den_law [none, some rowD, none] ⟨ns, 0, 25013, 0⟩ with
  | ok a R' => rw [e] at this; exact ⟨R', by rw [show a = _ from this]⟩
  | exc nm R' => rw [e] at this; exact this.elim
  | stuck => rw [e] at this; exact this.elim
end K25

namespace K25
open PySem PySem.Spec PyProof.Rows L2 Ev LamX
abbrev s_init : Stmt := inClass (top 1) 0

theorem all_mk {l : PySem.W.OpenLaw} {w : World} {K : PySem.W.Frag} {h : Heap} {mg : Str → Option Value} {fa : Addr} (X : K.In h) (G : h.Ns mainGlobals mg) (hfa : mg "law" = some (.ref fa))
    (hden : ∀ ns : List Int, ns.length ≤ 63 → (∀ z ∈ ns, Builtin.Int.intBits z ≤ 1048576) → ∃ R', den_law [none, some rowD, none] ⟨ns, 0, 25013, 0⟩ = .ok (.rt (.bool true)) R')
    {C fI a_require a_is_whole a_is_row a_are_wholes a_are_kinds a_ways a_fewest a_is_choice a__law_taken a__law_pick a__law_refused a__law_alike a__law_choices a__law_weight a__law_case a_law cc PP : Addr} {nm q : Str} {N : Addr} {bs : List Value} {sn : List Str} {sub : List Value} {ab : Bool} {col : Option Bool} {dd : Option Addr} {m0 m1 m2 m3 m5 : Option Value}
    {oc_i kV_i dc_i pm_i ct_i oc_require kV_require dc_require pm_require ct_require oc_is_whole kV_is_whole dc_is_whole pm_is_whole ct_is_whole oc_is_row kV_is_row dc_is_row pm_is_row ct_is_row oc_are_wholes kV_are_wholes dc_are_wholes pm_are_wholes ct_are_wholes oc_are_kinds kV_are_kinds dc_are_kinds pm_are_kinds ct_are_kinds oc_ways kV_ways dc_ways pm_ways ct_ways oc_fewest kV_fewest dc_fewest pm_fewest ct_fewest oc_is_choice kV_is_choice dc_is_choice pm_is_choice ct_is_choice oc__law_taken kV__law_taken dc__law_taken pm__law_taken ct__law_taken oc__law_pick kV__law_pick dc__law_pick pm__law_pick ct__law_pick oc__law_refused kV__law_refused dc__law_refused pm__law_refused ct__law_refused oc__law_alike kV__law_alike dc__law_alike pm__law_alike ct__law_alike oc__law_choices kV__law_choices dc__law_choices pm__law_choices ct__law_choices oc__law_weight kV__law_weight dc__law_weight pm__law_weight ct__law_weight oc__law_case kV__law_case dc__law_case pm__law_case ct__law_case oc_law kV_law dc_law pm_law ct_law cd_i cd_require cd_is_whole cd_is_row cd_are_wholes cd_are_kinds cd_ways cd_fewest cd_is_choice cd__law_taken cd__law_pick cd__law_refused cd__law_alike cd__law_choices cd__law_weight cd_law : Value} {od_i an_i od_require an_require od_is_whole an_is_whole od_is_row an_is_row od_are_wholes an_are_wholes od_are_kinds an_are_kinds od_ways an_ways od_fewest an_fewest od_is_choice an_is_choice od__law_taken an__law_taken od__law_pick an__law_pick od__law_refused an__law_refused od__law_alike an__law_alike od__law_choices an__law_choices od__law_weight an__law_weight od__law_case an__law_case od_law an_law : Option Addr} {sl_i sl_require sl_is_whole sl_is_row sl_are_wholes sl_are_kinds sl_ways sl_fewest sl_is_choice sl__law_taken sl__law_pick sl__law_refused sl__law_alike sl__law_choices sl__law_weight sl__law_case sl_law : Array (Option Value)} {t_MOST_KINDS t_MOST_LOAD t_MOST_PIECES t_MOST_WEIGHT : Tok}
    (aC : PySem.W.nsIn K mainGlobals "BadArgument" = some (some (.ref C)))
    (xL : K.lookup C = some (excClassObj nm q C N bs [.type "ValueError", .type "Exception", .type "BaseException", .type "object"] true sn sub ab col dd m0 m1 m2 m3 m5 "ValueError.__new__"))
    (sa : PySem.W.findIn K (.ref C) "__setattr__" = some (some (.builtin "object.__setattr__")))
    (ga : PySem.W.findIn K (.ref C) "__getattribute__" = some (some (.builtin "BaseException.__getattribute__")))
    (gg : PySem.W.findIn K (.ref C) "__getattr__" = some none)
    (nb : PySem.W.findIn K (.ref C) "name" = some none)
    (ai : PySem.W.findIn K (.ref C) "__init__" = some (some (.ref fI)))
    (ti : PySem.W.typeIn K (.ref fI) = some (.type "function"))
    (li : K.lookup fI = some ⟨oc_i, od_i, .func (PySem.W.fnOf "__init__" "BadArgument.__init__" (defArgs s_init) (defBody s_init) (defScope s_init) .none kV_i dc_i pm_i an_i cd_i ct_i), sl_i⟩)
    (ci : PySem.W.codeIn K cd_i "BadArgument.__init__" = true)
    (ki : PySem.W.keepIn K (.ref fI) = true)
    (kC : PySem.W.keepIn K (.ref C) = true)
    (eC : PySem.W.subIn K (.ref C) (.type "BaseException") = some true)
    (tC : PySem.W.typeIn K (.ref C) = some (.type "type"))
    (hC : PySem.W.hasDictIn K C = true)
    (iC : PySem.W.isClsIn K C = true)
    (sC : PySem.W.subIn K (.ref C) (.ref C) = some true)
    (n_require : PySem.W.nsIn K mainGlobals "require" = some (some (.ref a_require)))
    (l_require : K.lookup a_require = some ⟨oc_require, od_require, .func (PySem.W.fnOf "require" "require" (defArgs s_require) (defBody s_require) (defScope s_require) .none kV_require dc_require pm_require an_require cd_require ct_require), sl_require⟩)
    (c_require : PySem.W.codeIn K cd_require "require" = true)
    (k_require : PySem.W.keepIn K (.ref a_require) = true)
    (n_is_whole : PySem.W.nsIn K mainGlobals "is_whole" = some (some (.ref a_is_whole)))
    (l_is_whole : K.lookup a_is_whole = some ⟨oc_is_whole, od_is_whole, .func (PySem.W.fnOf "is_whole" "is_whole" (defArgs s_is_whole) (defBody s_is_whole) (defScope s_is_whole) .none kV_is_whole dc_is_whole pm_is_whole an_is_whole cd_is_whole ct_is_whole), sl_is_whole⟩)
    (c_is_whole : PySem.W.codeIn K cd_is_whole "is_whole" = true)
    (k_is_whole : PySem.W.keepIn K (.ref a_is_whole) = true)
    (n_is_row : PySem.W.nsIn K mainGlobals "is_row" = some (some (.ref a_is_row)))
    (l_is_row : K.lookup a_is_row = some ⟨oc_is_row, od_is_row, .func (PySem.W.fnOf "is_row" "is_row" (defArgs s_is_row) (defBody s_is_row) (defScope s_is_row) .none kV_is_row dc_is_row pm_is_row an_is_row cd_is_row ct_is_row), sl_is_row⟩)
    (c_is_row : PySem.W.codeIn K cd_is_row "is_row" = true)
    (k_is_row : PySem.W.keepIn K (.ref a_is_row) = true)
    (n_are_wholes : PySem.W.nsIn K mainGlobals "are_wholes" = some (some (.ref a_are_wholes)))
    (l_are_wholes : K.lookup a_are_wholes = some ⟨oc_are_wholes, od_are_wholes, .func (PySem.W.fnOf "are_wholes" "are_wholes" (defArgs s_are_wholes) (defBody s_are_wholes) (defScope s_are_wholes) .none kV_are_wholes dc_are_wholes pm_are_wholes an_are_wholes cd_are_wholes ct_are_wholes), sl_are_wholes⟩)
    (c_are_wholes : PySem.W.codeIn K cd_are_wholes "are_wholes" = true)
    (k_are_wholes : PySem.W.keepIn K (.ref a_are_wholes) = true)
    (n_are_kinds : PySem.W.nsIn K mainGlobals "are_kinds" = some (some (.ref a_are_kinds)))
    (l_are_kinds : K.lookup a_are_kinds = some ⟨oc_are_kinds, od_are_kinds, .func (PySem.W.fnOf "are_kinds" "are_kinds" (defArgs s_are_kinds) (defBody s_are_kinds) (defScope s_are_kinds) .none kV_are_kinds dc_are_kinds pm_are_kinds an_are_kinds cd_are_kinds ct_are_kinds), sl_are_kinds⟩)
    (c_are_kinds : PySem.W.codeIn K cd_are_kinds "are_kinds" = true)
    (k_are_kinds : PySem.W.keepIn K (.ref a_are_kinds) = true)
    (n_ways : PySem.W.nsIn K mainGlobals "ways" = some (some (.ref a_ways)))
    (l_ways : K.lookup a_ways = some ⟨oc_ways, od_ways, .func (PySem.W.fnOf "ways" "ways" (defArgs s_ways) (defBody s_ways) (defScope s_ways) .none kV_ways dc_ways pm_ways an_ways cd_ways ct_ways), sl_ways⟩)
    (c_ways : PySem.W.codeIn K cd_ways "ways" = true)
    (k_ways : PySem.W.keepIn K (.ref a_ways) = true)
    (n_fewest : PySem.W.nsIn K mainGlobals "fewest" = some (some (.ref a_fewest)))
    (l_fewest : K.lookup a_fewest = some ⟨oc_fewest, od_fewest, .func (PySem.W.fnOf "fewest" "fewest" (defArgs s_fewest) (defBody s_fewest) (defScope s_fewest) .none kV_fewest dc_fewest pm_fewest an_fewest cd_fewest ct_fewest), sl_fewest⟩)
    (c_fewest : PySem.W.codeIn K cd_fewest "fewest" = true)
    (k_fewest : PySem.W.keepIn K (.ref a_fewest) = true)
    (n_is_choice : PySem.W.nsIn K mainGlobals "is_choice" = some (some (.ref a_is_choice)))
    (l_is_choice : K.lookup a_is_choice = some ⟨oc_is_choice, od_is_choice, .func (PySem.W.fnOf "is_choice" "is_choice" (defArgs s_is_choice) (defBody s_is_choice) (defScope s_is_choice) .none kV_is_choice dc_is_choice pm_is_choice an_is_choice cd_is_choice ct_is_choice), sl_is_choice⟩)
    (c_is_choice : PySem.W.codeIn K cd_is_choice "is_choice" = true)
    (k_is_choice : PySem.W.keepIn K (.ref a_is_choice) = true)
    (n__law_taken : PySem.W.nsIn K mainGlobals "_law_taken" = some (some (.ref a__law_taken)))
    (l__law_taken : K.lookup a__law_taken = some ⟨oc__law_taken, od__law_taken, .func (PySem.W.fnOf "_law_taken" "_law_taken" (defArgs s__law_taken) (defBody s__law_taken) (defScope s__law_taken) .none kV__law_taken dc__law_taken pm__law_taken an__law_taken cd__law_taken ct__law_taken), sl__law_taken⟩)
    (c__law_taken : PySem.W.codeIn K cd__law_taken "_law_taken" = true)
    (k__law_taken : PySem.W.keepIn K (.ref a__law_taken) = true)
    (n__law_pick : PySem.W.nsIn K mainGlobals "_law_pick" = some (some (.ref a__law_pick)))
    (l__law_pick : K.lookup a__law_pick = some ⟨oc__law_pick, od__law_pick, .func (PySem.W.fnOf "_law_pick" "_law_pick" (defArgs s__law_pick) (defBody s__law_pick) (defScope s__law_pick) .none kV__law_pick dc__law_pick pm__law_pick an__law_pick cd__law_pick ct__law_pick), sl__law_pick⟩)
    (c__law_pick : PySem.W.codeIn K cd__law_pick "_law_pick" = true)
    (k__law_pick : PySem.W.keepIn K (.ref a__law_pick) = true)
    (n__law_refused : PySem.W.nsIn K mainGlobals "_law_refused" = some (some (.ref a__law_refused)))
    (l__law_refused : K.lookup a__law_refused = some ⟨oc__law_refused, od__law_refused, .func (PySem.W.fnOf "_law_refused" "_law_refused" (defArgs s__law_refused) (defBody s__law_refused) (defScope s__law_refused) .none kV__law_refused dc__law_refused pm__law_refused an__law_refused cd__law_refused ct__law_refused), sl__law_refused⟩)
    (c__law_refused : PySem.W.codeIn K cd__law_refused "_law_refused" = true)
    (k__law_refused : PySem.W.keepIn K (.ref a__law_refused) = true)
    (n__law_alike : PySem.W.nsIn K mainGlobals "_law_alike" = some (some (.ref a__law_alike)))
    (l__law_alike : K.lookup a__law_alike = some ⟨oc__law_alike, od__law_alike, .func (PySem.W.fnOf "_law_alike" "_law_alike" (defArgs s__law_alike) (defBody s__law_alike) (defScope s__law_alike) .none kV__law_alike dc__law_alike pm__law_alike an__law_alike cd__law_alike ct__law_alike), sl__law_alike⟩)
    (c__law_alike : PySem.W.codeIn K cd__law_alike "_law_alike" = true)
    (k__law_alike : PySem.W.keepIn K (.ref a__law_alike) = true)
    (n__law_choices : PySem.W.nsIn K mainGlobals "_law_choices" = some (some (.ref a__law_choices)))
    (l__law_choices : K.lookup a__law_choices = some ⟨oc__law_choices, od__law_choices, .func (PySem.W.fnOf "_law_choices" "_law_choices" (defArgs s__law_choices) (defBody s__law_choices) (defScope s__law_choices) .none kV__law_choices dc__law_choices pm__law_choices an__law_choices cd__law_choices ct__law_choices), sl__law_choices⟩)
    (c__law_choices : PySem.W.codeIn K cd__law_choices "_law_choices" = true)
    (k__law_choices : PySem.W.keepIn K (.ref a__law_choices) = true)
    (n__law_weight : PySem.W.nsIn K mainGlobals "_law_weight" = some (some (.ref a__law_weight)))
    (l__law_weight : K.lookup a__law_weight = some ⟨oc__law_weight, od__law_weight, .func (PySem.W.fnOf "_law_weight" "_law_weight" (defArgs s__law_weight) (defBody s__law_weight) (defScope s__law_weight) .none kV__law_weight dc__law_weight pm__law_weight an__law_weight cd__law_weight ct__law_weight), sl__law_weight⟩)
    (c__law_weight : PySem.W.codeIn K cd__law_weight "_law_weight" = true)
    (k__law_weight : PySem.W.keepIn K (.ref a__law_weight) = true)
    (n__law_case : PySem.W.nsIn K mainGlobals "_law_case" = some (some (.ref a__law_case)))
    (l__law_case : K.lookup a__law_case = some ⟨oc__law_case, od__law_case, .func (PySem.W.fnOf "_law_case" "_law_case" (defArgs s__law_case) (defBody s__law_case) (defScope s__law_case) .none kV__law_case dc__law_case pm__law_case an__law_case (.ref cc) ct__law_case), sl__law_case⟩)
    (c__law_case : PySem.W.codeIn K (.ref cc) "_law_case" = true)
    (k__law_case : PySem.W.keepIn K (.ref a__law_case) = true)
    (n_law : PySem.W.nsIn K mainGlobals "law" = some (some (.ref a_law)))
    (l_law : K.lookup a_law = some ⟨oc_law, od_law, .func (PySem.W.fnOf "law" "law" (defArgs s_law) (defBody s_law) (defScope s_law) .none kV_law dc_law pm_law an_law cd_law ct_law), sl_law⟩)
    (c_law : PySem.W.codeIn K cd_law "law" = true)
    (k_law : PySem.W.keepIn K (.ref a_law) = true)
    (z_MOST_KINDS : PySem.W.nsIn K mainGlobals "MOST_KINDS" = some (some (.int 6 t_MOST_KINDS)))
    (z_MOST_LOAD : PySem.W.nsIn K mainGlobals "MOST_LOAD" = some (some (.int 999 t_MOST_LOAD)))
    (z_MOST_PIECES : PySem.W.nsIn K mainGlobals "MOST_PIECES" = some (some (.int 20 t_MOST_PIECES)))
    (z_MOST_WEIGHT : PySem.W.nsIn K mainGlobals "MOST_WEIGHT" = some (some (.int 99 t_MOST_WEIGHT)))
    (b_len : PySem.W.nsIn K mainGlobals "len" = some none)
    (b_int : PySem.W.nsIn K mainGlobals "int" = some none)
    (b_abs : PySem.W.nsIn K mainGlobals "abs" = some none)
    (b_max : PySem.W.nsIn K mainGlobals "max" = some none)
    (b_min : PySem.W.nsIn K mainGlobals "min" = some none)
    (b_sum : PySem.W.nsIn K mainGlobals "sum" = some none)
    (b_all : PySem.W.nsIn K mainGlobals "all" = some none)
    (b_any : PySem.W.nsIn K mainGlobals "any" = some none)
    (b_tuple : PySem.W.nsIn K mainGlobals "tuple" = some none)
    (b_list : PySem.W.nsIn K mainGlobals "list" = some none)
    (b_isinstance : PySem.W.nsIn K mainGlobals "isinstance" = some none)
    (b_bool : PySem.W.nsIn K mainGlobals "bool" = some none)
    (b_range : PySem.W.nsIn K mainGlobals "range" = some none)
    (b_sorted : PySem.W.nsIn K mainGlobals "sorted" = some none)
    (b_zip : PySem.W.nsIn K mainGlobals "zip" = some none)
    (b_enumerate : PySem.W.nsIn K mainGlobals "enumerate" = some none)
    (b_str : PySem.W.nsIn K mainGlobals "str" = some none)
    (b_set : PySem.W.nsIn K mainGlobals "set" = some none)
    (b_dict : PySem.W.nsIn K mainGlobals "dict" = some none)
    (tb : h.get? PP = some { cls := .none, data := .fields #[] })
    (nT : K.lookup PP = none)
    (cH : PySem.W.codeHdIn K cc PP = true)
    : LawAtS l w K (L2.CX l.prog w) 10 63 "script" mg fa h := by
  have e := hfa.symm.trans (PySem.W.mg_of X G n_law)
  cases e
  have bl : Blts mg := ⟨PySem.W.mg_none_of X G b_len, PySem.W.mg_none_of X G b_int, PySem.W.mg_none_of X G b_abs, PySem.W.mg_none_of X G b_max, PySem.W.mg_none_of X G b_min, PySem.W.mg_none_of X G b_sum, PySem.W.mg_none_of X G b_all, PySem.W.mg_none_of X G b_any, PySem.W.mg_none_of X G b_tuple, PySem.W.mg_none_of X G b_list, PySem.W.mg_none_of X G b_isinstance, PySem.W.mg_none_of X G b_bool, PySem.W.mg_none_of X G b_range, PySem.W.mg_none_of X G b_sorted, PySem.W.mg_none_of X G b_zip, PySem.W.mg_none_of X G b_enumerate, PySem.W.mg_none_of X G b_str, PySem.W.mg_none_of X G b_set, PySem.W.mg_none_of X G b_dict⟩
  refine ⟨PySem.W.fnOf "law" "law" (defArgs s_law) (defBody s_law) (defScope s_law) .none kV_law dc_law pm_law an_law cd_law ct_law, [(cc, PP)], spLaw K ⟨C, [(PP, (("_law_case" : Str) ++ ".<locals>.") ++ "<lambda>")]⟩, (fun p hp => by rw [List.mem_singleton.mp hp]; exact tb), (fun p hp => by rw [List.mem_singleton.mp hp]; exact nT), (fun p hp => by rw [List.mem_singleton.mp hp]; exact PySem.W.codeHd_of_K X cH), fun s u => .of_eq rfl, fun H a ns h1 h2 hH hS => ⟨a, ns, rfl, hS, h1, h2, fun p hp => by rw [List.mem_singleton.mp hp]; exact hH (cc, PP) List.mem_cons_self, fun _ => rfl⟩, fun base _ _ hTB => ?_⟩
  let c : Cfg := ⟨C, [(PP, (("_law_case" : Str) ++ ".<locals>.") ++ "<lambda>")]⟩
  have ox : OexC K C := ⟨⟨nm, q, N, bs, _, sn, sub, ab, col, dd, m0, m1, m2, m3, m5, xL, by decide +kernel⟩, sa, eC, tC, kC⟩
  have Fi := fun_mk (st := s_init) li ci ki
  have B : Bad l.prog w K mg base c.CB := ⟨PySem.W.mg_of X G aC, ox, ⟨ga, gg, eC, hC⟩, nb, exm_self eC iC tC sC, fI, _, ai, ti, Fi.binds (ps := ["self", "name"]) (fun _ _ _ _ _ _ us hl => match us, hl with | [_, _], _ => rfl), ok_init Fi rfl rfl ox nb⟩
  have TB : LamX.TabB base mg cc PP := hTB (cc, PP) List.mem_cons_self
  have rf : RefK K mg s__law_refused := ⟨⟨a__law_refused, _, _, _, _, _, _, _, _, _, _, PySem.W.mg_of X G n__law_refused, k__law_refused, l__law_refused, c__law_refused, (fun_mk (st := s__law_refused) l__law_refused c__law_refused k__law_refused).binds (ps := ["call"]) (fun _ _ _ _ _ _ us hl => match us, hl with | [_], _ => rfl)⟩, ⟨rfl, rfl, rfl, by decide +kernel, rfl, by decide +kernel, by decide +kernel⟩, ⟨_, _, _, _, _, _, _, _, _, _, _, _, rfl⟩, rfl, rfl, Or.inl rfl⟩
  have c_MOST_KINDS : ∃ t, mg "MOST_KINDS" = some (.int 6 t) := ⟨t_MOST_KINDS, PySem.W.mg_of X G z_MOST_KINDS⟩
  have c_MOST_LOAD : ∃ t, mg "MOST_LOAD" = some (.int 999 t) := ⟨t_MOST_LOAD, PySem.W.mg_of X G z_MOST_LOAD⟩
  have c_MOST_PIECES : ∃ t, mg "MOST_PIECES" = some (.int 20 t) := ⟨t_MOST_PIECES, PySem.W.mg_of X G z_MOST_PIECES⟩
  have c_MOST_WEIGHT : ∃ t, mg "MOST_WEIGHT" = some (.int 99 t) := ⟨t_MOST_WEIGHT, PySem.W.mg_of X G z_MOST_WEIGHT⟩
  have f__law_alike := w__law_alike (P := l.prog) (w := w) (base := base) (c := c) bl   (funC_mk (st := s__law_alike) l__law_alike c__law_alike k__law_alike) (PySem.W.mg_of X G n__law_alike) 8 (by decide)
  have f__law_choices := w__law_choices (P := l.prog) (w := w) (base := base) (c := c) bl   (funC_mk (st := s__law_choices) l__law_choices c__law_choices k__law_choices) (PySem.W.mg_of X G n__law_choices)
  have f__law_taken := w__law_taken (P := l.prog) (w := w) (base := base) (c := c) bl   (funC_mk (st := s__law_taken) l__law_taken c__law_taken k__law_taken) (PySem.W.mg_of X G n__law_taken)
  have f__law_pick := w__law_pick (P := l.prog) (w := w) (base := base) (c := c) bl f__law_taken  (funC_mk (st := s__law_pick) l__law_pick c__law_pick k__law_pick) (PySem.W.mg_of X G n__law_pick)
  have f__law_weight := w__law_weight (P := l.prog) (w := w) (base := base) (c := c) bl   (funC_mk (st := s__law_weight) l__law_weight c__law_weight k__law_weight) (PySem.W.mg_of X G n__law_weight)
  have f_is_row := w_is_row (P := l.prog) (w := w) (base := base) (c := c) bl   (funC_mk (st := s_is_row) l_is_row c_is_row k_is_row) (PySem.W.mg_of X G n_is_row)
  have f_is_whole := w_is_whole (P := l.prog) (w := w) (base := base) (c := c) bl   (funC_mk (st := s_is_whole) l_is_whole c_is_whole k_is_whole) (PySem.W.mg_of X G n_is_whole)
  have f_are_kinds := w_are_kinds (P := l.prog) (w := w) (base := base) (c := c) bl f_is_row f_is_whole c_MOST_KINDS c_MOST_PIECES c_MOST_WEIGHT (funC_mk (st := s_are_kinds) l_are_kinds c_are_kinds k_are_kinds) (PySem.W.mg_of X G n_are_kinds)
  have f_require := w_require (P := l.prog) (w := w) (base := base) (c := c) bl   B (funC_mk (st := s_require) l_require c_require k_require) (PySem.W.mg_of X G n_require)
  have f_fewest := w_fewest (P := l.prog) (w := w) (base := base) (c := c) bl f_are_kinds f_is_whole f_require c_MOST_LOAD (funC_mk (st := s_fewest) l_fewest c_fewest k_fewest) (PySem.W.mg_of X G n_fewest)
  have f_are_wholes := w_are_wholes (P := l.prog) (w := w) (base := base) (c := c) bl f_is_row f_is_whole  (funC_mk (st := s_are_wholes) l_are_wholes c_are_wholes k_are_wholes) (PySem.W.mg_of X G n_are_wholes)
  have f_is_choice := w_is_choice (P := l.prog) (w := w) (base := base) (c := c) bl f_are_kinds f_are_wholes f_is_whole f_require c_MOST_LOAD c_MOST_PIECES (funC_mk (st := s_is_choice) l_is_choice c_is_choice k_is_choice) (PySem.W.mg_of X G n_is_choice)
  have f_ways := w_ways (P := l.prog) (w := w) (base := base) (c := c) bl f_are_kinds f_is_whole f_require c_MOST_LOAD (funC_mk (st := s_ways) l_ways c_ways k_ways) (PySem.W.mg_of X G n_ways)
  have f__law_case := w__law_case (P := l.prog) (w := w) (base := base) (c := c) bl f__law_alike f__law_choices f__law_pick f__law_taken f__law_weight f_fewest f_is_choice f_ways  B rf TB rfl (funC_mk (st := s__law_case) l__law_case c__law_case k__law_case) (PySem.W.mg_of X G n__law_case)
  exact w_law (c := c) bl f__law_case  (funC_mk (st := s_law) l_law c_law k_law) hden
end K25
open PySem PySem.W PyProof.Rows
set_option maxRecDepth 100000 in
set_option maxHeartbeats 0 in
theorem PySem.Challenge.cw_logsawn_k25_whole_choices_of_kinds_holds : PySem.Challenge.rw_logsawn_k25_whole_choices_of_kinds.Holds := by
  w_on; o_law; k_head; (case hw => w_witness2)
  k_fill
  refine LamX.walk_ofTs (l := PySem.Challenge.rw_logsawn_k25_whole_choices_of_kinds) (n := 63) (k := 10) (x := "script") (CX := fun w => L2.CX (PySem.Challenge.rw_logsawn_k25_whole_choices_of_kinds).prog w) rfl (by decide) rfl ⟨rfl, by decide, by decide⟩ (fun w h Y => PySem.W.km_in_of Y) ?F ?Z
  case Z =>
    intro w H s e s' hq
    obtain ⟨_, _, _, _, _, _, _, _, _, _, _, _, z⟩ := hq
    exact z
  case F =>
    intro w mg fa h Y KX G hmg
    have hT8 := PySem.W.km_tabs_of Y
    refine' K25.all_mk KX G hmg K25.law_true ?aC ?xL ?sa ?ga ?gg ?nb ?ai ?ti ?li ?ci ?ki ?kC ?eC ?tC ?hC ?iC ?sC ?n_require ?l_require ?c_require ?k_require ?n_is_whole ?l_is_whole ?c_is_whole ?k_is_whole ?n_is_row ?l_is_row ?c_is_row ?k_is_row ?n_are_wholes ?l_are_wholes ?c_are_wholes ?k_are_wholes ?n_are_kinds ?l_are_kinds ?c_are_kinds ?k_are_kinds ?n_ways ?l_ways ?c_ways ?k_ways ?n_fewest ?l_fewest ?c_fewest ?k_fewest ?n_is_choice ?l_is_choice ?c_is_choice ?k_is_choice ?n__law_taken ?l__law_taken ?c__law_taken ?k__law_taken ?n__law_pick ?l__law_pick ?c__law_pick ?k__law_pick ?n__law_refused ?l__law_refused ?c__law_refused ?k__law_refused ?n__law_alike ?l__law_alike ?c__law_alike ?k__law_alike ?n__law_choices ?l__law_choices ?c__law_choices ?k__law_choices ?n__law_weight ?l__law_weight ?c__law_weight ?k__law_weight ?n__law_case ?l__law_case ?c__law_case ?k__law_case ?n_law ?l_law ?c_law ?k_law ?z_MOST_KINDS ?z_MOST_LOAD ?z_MOST_PIECES ?z_MOST_WEIGHT ?b_len ?b_int ?b_abs ?b_max ?b_min ?b_sum ?b_all ?b_any ?b_tuple ?b_list ?b_isinstance ?b_bool ?b_range ?b_sorted ?b_zip ?b_enumerate ?b_str ?b_set ?b_dict ?tb ?nT ?cH
    (case aC => k_is)
    (case xL => k_is)
    (case sa => k_is)
    (case ga => k_is)
    (case gg => k_is)
    (case nb => k_is)
    (case ai => k_is)
    (case ti => k_is)
    (case li => k_is)
    (case ci => k_is)
    (case ki => k_is)
    (case kC => k_is)
    (case eC => k_is)
    (case tC => k_is)
    (case hC => k_is)
    (case iC => k_is)
    (case sC => first | rfl | k_is)
    (case n_require => k_is)
    (case l_require => k_is)
    (case c_require => k_is)
    (case k_require => k_is)
    (case n_is_whole => k_is)
    (case l_is_whole => k_is)
    (case c_is_whole => k_is)
    (case k_is_whole => k_is)
    (case n_is_row => k_is)
    (case l_is_row => k_is)
    (case c_is_row => k_is)
    (case k_is_row => k_is)
    (case n_are_wholes => k_is)
    (case l_are_wholes => k_is)
    (case c_are_wholes => k_is)
    (case k_are_wholes => k_is)
    (case n_are_kinds => k_is)
    (case l_are_kinds => k_is)
    (case c_are_kinds => k_is)
    (case k_are_kinds => k_is)
    (case n_ways => k_is)
    (case l_ways => k_is)
    (case c_ways => k_is)
    (case k_ways => k_is)
    (case n_fewest => k_is)
    (case l_fewest => k_is)
    (case c_fewest => k_is)
    (case k_fewest => k_is)
    (case n_is_choice => k_is)
    (case l_is_choice => k_is)
    (case c_is_choice => k_is)
    (case k_is_choice => k_is)
    (case n__law_taken => k_is)
    (case l__law_taken => k_is)
    (case c__law_taken => k_is)
    (case k__law_taken => k_is)
    (case n__law_pick => k_is)
    (case l__law_pick => k_is)
    (case c__law_pick => k_is)
    (case k__law_pick => k_is)
    (case n__law_refused => k_is)
    (case l__law_refused => k_is)
    (case c__law_refused => k_is)
    (case k__law_refused => k_is)
    (case n__law_alike => k_is)
    (case l__law_alike => k_is)
    (case c__law_alike => k_is)
    (case k__law_alike => k_is)
    (case n__law_choices => k_is)
    (case l__law_choices => k_is)
    (case c__law_choices => k_is)
    (case k__law_choices => k_is)
    (case n__law_weight => k_is)
    (case l__law_weight => k_is)
    (case c__law_weight => k_is)
    (case k__law_weight => k_is)
    (case n__law_case => k_is)
    (case l__law_case => k_is)
    (case c__law_case => k_is)
    (case k__law_case => k_is)
    (case n_law => k_is)
    (case l_law => k_is)
    (case c_law => k_is)
    (case k_law => k_is)
    (case z_MOST_KINDS => k_is)
    (case z_MOST_LOAD => k_is)
    (case z_MOST_PIECES => k_is)
    (case z_MOST_WEIGHT => k_is)
    (case b_len => k_is)
    (case b_int => k_is)
    (case b_abs => k_is)
    (case b_max => k_is)
    (case b_min => k_is)
    (case b_sum => k_is)
    (case b_all => k_is)
    (case b_any => k_is)
    (case b_tuple => k_is)
    (case b_list => k_is)
    (case b_isinstance => k_is)
    (case b_bool => k_is)
    (case b_range => k_is)
    (case b_sorted => k_is)
    (case b_zip => k_is)
    (case b_enumerate => k_is)
    (case b_str => k_is)
    (case b_set => k_is)
    (case b_dict => k_is)
    (case tb => exact hT8 _ List.mem_cons_self)
    (case nT => kernel_rfl)
    (case cH => kernel_rfl)


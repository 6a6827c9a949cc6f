import PyProof.Rows.All
import Wide.All
import OpenK.AllK
import Wide.FinOn
import HandS.ForMost
import HandS.Exc
import HandS.TryOnly
import HandS.TryMany
import HandS.WordsExc
import HandS.Flow
import HandS.Style
import HandS.Wide
import HandS.SortInts
import HandS.Lambda
import HandS.ExcInit
import HandS.ExcField
import HandS.ExcIs
import PyProof.ReprRoads
import HandS.SetFor
import HandS.IsInst
import HandS.Defaults
import PyProof.ListNew
import PyProof.EnumMake
import HandS.ExcValue
import HandS.Conv
import HandS.More
import KE.KExcIs
import HandS.TupAny
import HandS.EndTab
import PyProof.SumWalkG
import HandS.NoneIn
import PySem.Challenge.RW_midwalk_k50_doublet_passes
set_option Elab.async false
set_option linter.all false
set_option maxRecDepth 100000
set_option maxHeartbeats 4000000
set_option autoImplicit false
/-! MwA: data as trees over the tracked heap; what a frame knows; what an expression, a test, an argument list gives. -/
namespace Mw
open PySem PySem.Spec L2

/-- the tables of code objects that lambdas are made by -/
class Tb where
  T : List (Addr × Str)
/-- what is never written by a store -/
def Hard (o : HO) : Prop := (∃ ps, o = .tbl ps) ∨ ∃ f, o = .ext f
/-- all that stood stands; a table of code objects may have grown -/
structure Sam (H H' : Hp) : Prop where
  st : ∀ b o, H b = some o → (∀ ps, o ≠ .tbl ps) → H' b = some o
  tb : ∀ b ps, H b = some (.tbl ps) → ∃ ps', H' b = some (.tbl ps')
theorem same_sam {H H' : Hp} (h : Same H H') : Sam H H' := ⟨fun b o e _ => h b o e, fun b ps e => ⟨ps, h b _ e⟩⟩
theorem Sam.refl (H : Hp) : Sam H H := same_sam (.refl H)
theorem Sam.trans {H H1 H2 : Hp} (a : Sam H H1) (b : Sam H1 H2) : Sam H H2 := ⟨fun c o e n => b.st c o (a.st c o e n) n, fun c ps e => by
  obtain ⟨q, e1⟩ := a.tb c ps e
  exact b.tb c q e1⟩
theorem Sam.dom {H H' : Hp} (a : Sam H H') {b : Addr} {o : HO} (e : H b = some o) : ∃ o', H' b = some o' := by
  cases o with
  | tbl ps => obtain ⟨q, e1⟩ := a.tb b ps e; exact ⟨_, e1⟩
  | _ => exact ⟨_, a.st b _ e fun ps z => nomatch z⟩
theorem Sam.free {H H' : Hp} (a : Sam H H') {b : Addr} (e : H' b = none) : H b = none := by
  cases h : H b with
  | none => rfl
  | some o => obtain ⟨o', e1⟩ := a.dom h; rw [e] at e1; cases e1
theorem sam_rd {H H' : Hp} {a : Addr} {u : HO} (e : Sam H H') (hu : ∀ ps, u ≠ .tbl ps) (h : Rd H a u) : Rd H' a u := by
  rcases h with h | ⟨o, h⟩
  · exact .inl (e.st _ _ h hu)
  · exact .inr ⟨o, e.st _ _ h fun ps z => nomatch z⟩
theorem Sam.seq {K : PySem.W.Frag} {H H' : Hp} {a : Addr} {xs : List V} (e : Sam H H') (h : SqL K H a xs) : SqL K H' a xs := by
  rcases h with h | h
  · exact .inl (sam_rd e (fun ps z => nomatch z) h)
  · exact .inr h
theorem Sam.sqt {K : PySem.W.Frag} {H H' : Hp} {a : Addr} {xs : List V} (e : Sam H H') (h : SqT K H a xs) : SqT K H' a xs := by
  rcases h with h | h
  · exact .inl (sam_rd e (fun ps z => nomatch z) h)
  · exact .inr h
theorem Sam.upd {H : Hp} {l : Addr} {o : HO} (hn : H l = none) : Sam H (upd H l o) := same_sam fun b u e => by rw [upd_ne (ne_of_none e hn)]; exact e

/-! ## trees -/
def keyD : Key → PyData
  | .inl i => .int i
  | .inr x => .str x
/-- an exception as it is held: its class at C, the address of its dict -/
def exO (a C : Addr) (d : Option Addr) : HO := .ext fun h => ∃ oe vs, h.get? a = some oe ∧ Zc (.ref C) d oe ∧ oe.data = .fields vs
/-- a thing by its address -/
def rawD (a : Addr) : PyData := .dict [(.none, .none), (.none, .int (a : Nat))]
/-- an exception of the class at C -/
def excD (C : Addr) : Option (Str × PyData) → PyData
  | none => .dict [(.none, .int (C : Nat))]
  | some (f, d) => .dict [(.none, .int (C : Nat)), (.str f, d)]
mutual
inductive Tr (K : PySem.W.Frag) (H : Hp) : V → PyData → Prop
  | non : Tr K H .non .none
  | bl (b : Bool) : Tr K H (.bl b) (.bool b)
  | int (i : Int) : Tr K H (.int i) (.int i)
  | str (x : Str) : Tr K H (.str x) (.str x)
  | lst {a : Addr} {xs : List V} {ds : List PyData} (h : SqL K H a xs) (t : Trs K H xs ds) : Tr K H (.ref a) (.list ds)
  | tup {a : Addr} {xs : List V} {ds : List PyData} (h : SqT K H a xs) (t : Trs K H xs ds) : Tr K H (.ref a) (.tuple ds)
  | dct {a : Addr} {kvs : List (Key × V)} {ds : List (PyData × PyData)} (h : Rd H a (.dK kvs)) (t : Trk K H kvs ds) : Tr K H (.ref a) (.dict ds)
  | rw (a : Addr) : Tr K H (.ref a) (.dict [(.none, .none), (.none, .int (a : Nat))])
  | exc0 {a C : Addr} (h : H a = some (exO a C none)) : Tr K H (.ref a) (.dict [(.none, .int (C : Nat))])
  | exc1 {a C dx : Addr} {f : Str} {v : V} {d : PyData} (h : H a = some (exO a C (some dx))) (hx : H dx = some (.xd [(f, v)])) (t : Tr K H v d) : Tr K H (.ref a) (.dict [(.none, .int (C : Nat)), (.str f, d)])
inductive Trs (K : PySem.W.Frag) (H : Hp) : List V → List PyData → Prop
  | nil : Trs K H [] []
  | cons {v : V} {vs : List V} {d : PyData} {ds : List PyData} (h : Tr K H v d) (t : Trs K H vs ds) : Trs K H (v :: vs) (d :: ds)
inductive Trk (K : PySem.W.Frag) (H : Hp) : List (Key × V) → List (PyData × PyData) → Prop
  | nil : Trk K H [] []
  | cons {k : Key} {v : V} {kvs : List (Key × V)} {d : PyData} {ds : List (PyData × PyData)} (h : Tr K H v d) (t : Trk K H kvs ds) : Trk K H ((k, v) :: kvs) ((keyD k, d) :: ds)
end
theorem dK_nt {kvs : List (Key × V)} : ∀ ps, HO.dK kvs ≠ .tbl ps := fun ps z => by cases z
theorem xd_nt {kvs : List (Str × V)} : ∀ ps, HO.xd kvs ≠ .tbl ps := fun ps z => by cases z
theorem exO_nt {a C : Addr} {d : Option Addr} : ∀ ps, exO a C d ≠ .tbl ps := fun ps z => by unfold exO at z; cases z
mutual
theorem Tr.sam {K : PySem.W.Frag} {H H' : Hp} (e : Sam H H') : ∀ {v : V} {d : PyData}, Tr K H v d → Tr K H' v d
  | _, _, .non => .non
  | _, _, .bl b => .bl b
  | _, _, .int i => .int i
  | _, _, .str x => .str x
  | _, _, .lst h t => .lst (e.seq h) (Trs.sam e t)
  | _, _, .tup h t => .tup (e.sqt h) (Trs.sam e t)
  | _, _, .dct h t => .dct (sam_rd e dK_nt h) (Trk.sam e t)
  | _, _, .rw a => .rw a
  | _, _, .exc0 h => .exc0 (e.st _ _ h exO_nt)
  | _, _, .exc1 h hx t => .exc1 (e.st _ _ h exO_nt) (e.st _ _ hx xd_nt) (Tr.sam e t)
theorem Trs.sam {K : PySem.W.Frag} {H H' : Hp} (e : Sam H H') : ∀ {vs : List V} {ds : List PyData}, Trs K H vs ds → Trs K H' vs ds
  | _, _, .nil => .nil
  | _, _, .cons h t => .cons (Tr.sam e h) (Trs.sam e t)
theorem Trk.sam {K : PySem.W.Frag} {H H' : Hp} (e : Sam H H') : ∀ {vs : List (Key × V)} {ds : List (PyData × PyData)}, Trk K H vs ds → Trk K H' vs ds
  | _, _, .nil => .nil
  | _, _, .cons h t => .cons (Tr.sam e h) (Trk.sam e t)
end
theorem Tr.mono {K : PySem.W.Frag} {H H' : Hp} (e : Same H H') {v : V} {d : PyData} (h : Tr K H v d) : Tr K H' v d := h.sam (same_sam e)
theorem Trs.mono {K : PySem.W.Frag} {H H' : Hp} (e : Same H H') {v : List V} {d : List PyData} (h : Trs K H v d) : Trs K H' v d := h.sam (same_sam e)
theorem Trk.mono {K : PySem.W.Frag} {H H' : Hp} (e : Same H H') {v : List (Key × V)} {d : List (PyData × PyData)} (h : Trk K H v d) : Trk K H' v d := h.sam (same_sam e)
section
variable {K : PySem.W.Frag} {H : Hp}
theorem Trs.len : ∀ {vs : List V} {ds : List PyData}, Trs K H vs ds → vs.length = ds.length
  | _, _, .nil => rfl
  | _, _, .cons _ t => congrArg (· + 1) (Trs.len t)
theorem Trs.get : ∀ {vs : List V} {ds : List PyData} {i : Nat} {d : PyData}, Trs K H vs ds → ds[i]? = some d → ∃ v, vs[i]? = some v ∧ Tr K H v d
  | _, _, _, _, .nil, e => by simp at e
  | _, _, 0, _, .cons h _, e => ⟨_, rfl, by simp at e; subst e; exact h⟩
  | _, _, i + 1, _, .cons _ t, e => by
    obtain ⟨v, h1, h2⟩ := Trs.get (i := i) t (by simpa using e)
    exact ⟨v, by simpa using h1, h2⟩
theorem Trs.getV : ∀ {vs : List V} {ds : List PyData} {i : Nat} {v : V}, Trs K H vs ds → vs[i]? = some v → ∃ d, ds[i]? = some d ∧ Tr K H v d
  | _, _, _, _, .nil, e => by simp at e
  | _, _, 0, _, .cons h _, e => ⟨_, rfl, by simp at e; subst e; exact h⟩
  | _, _, i + 1, _, .cons _ t, e => by
    obtain ⟨v, h1, h2⟩ := Trs.getV (i := i) t (by simpa using e)
    exact ⟨v, by simpa using h1, h2⟩
theorem Trs.app : ∀ {vs ws : List V} {ds es : List PyData}, Trs K H vs ds → Trs K H ws es → Trs K H (vs ++ ws) (ds ++ es)
  | _, _, _, _, .nil, s => s
  | _, _, _, _, .cons h t, s => .cons h (Trs.app t s)
theorem Trs.take : ∀ {vs : List V} {ds : List PyData} (n : Nat), Trs K H vs ds → Trs K H (vs.take n) (ds.take n)
  | _, _, 0, _ => .nil
  | _, _, _ + 1, .nil => .nil
  | _, _, n + 1, .cons h t => .cons h (Trs.take n t)
theorem Trs.drop : ∀ {vs : List V} {ds : List PyData} (n : Nat), Trs K H vs ds → Trs K H (vs.drop n) (ds.drop n)
  | _, _, 0, r => r
  | _, _, _ + 1, .nil => .nil
  | _, _, n + 1, .cons _ t => Trs.drop n t
theorem Trs.set {v : V} {d : PyData} (r : Tr K H v d) : ∀ {vs : List V} {ds : List PyData} (i : Nat), Trs K H vs ds → Trs K H (vs.set i v) (ds.set i d)
  | _, _, _, .nil => .nil
  | _, _, 0, .cons _ t => .cons r t
  | _, _, i + 1, .cons h t => .cons h (Trs.set r i t)
theorem Trs.erase : ∀ {vs : List V} {ds : List PyData} (i : Nat), Trs K H vs ds → Trs K H (vs.eraseIdx i) (ds.eraseIdx i)
  | _, _, _, .nil => .nil
  | _, _, 0, .cons _ t => t
  | _, _, i + 1, .cons h t => .cons h (Trs.erase i t)
theorem Trs.one {v : V} {d : PyData} (h : Tr K H v d) : Trs K H [v] [d] := .cons h .nil
theorem Trs.repl : ∀ (n : Nat) {vs : List V} {ds : List PyData}, Trs K H vs ds → Trs K H (List.replicate n vs).flatten (List.replicate n ds).flatten
  | 0, _, _, _ => .nil
  | n + 1, vs, ds, h => by
    rw [List.replicate_succ, List.replicate_succ, List.flatten_cons, List.flatten_cons]
    exact h.app (Trs.repl n h)
/-- lists of numbers -/
def nums (xs : List Int) : List PyData := xs.map .int
theorem trs_nums : ∀ (xs : List Int), Trs K H (xs.map V.int) (nums xs)
  | [] => .nil
  | x :: r => .cons (.int x) (trs_nums r)
theorem trs_nums_eq : ∀ {xs : List Int} {vs : List V}, Trs K H vs (nums xs) → vs = xs.map V.int
  | [], _, h => by cases h; rfl
  | x :: r, _, h => by
    cases h with
    | cons h t =>
      cases h
      rw [trs_nums_eq (xs := r) t]
      rfl
theorem len_nums (xs : List Int) : (nums xs).length = xs.length := by unfold nums; rw [List.length_map]
theorem get_nums {xs : List Int} {i : Nat} {x : Int} (h : xs[i]? = some x) : (nums xs)[i]? = some (.int x) := by unfold nums; rw [List.getElem?_map, h]; rfl
theorem nums_app (xs ys : List Int) : nums xs ++ nums ys = nums (xs ++ ys) := by unfold nums; rw [List.map_append]
theorem nums_snoc (xs : List Int) (y : Int) : nums xs ++ [.int y] = nums (xs ++ [y]) := nums_app xs [y]
theorem nums_mem {xs : List Int} {d : PyData} (h : d ∈ nums xs) : ∃ x ∈ xs, d = .int x := by
  obtain ⟨x, hx, e⟩ := List.mem_map.mp h
  exact ⟨x, hx, e.symm⟩
theorem nums_get {xs : List Int} {i : Nat} {d : PyData} (h : (nums xs)[i]? = some d) : ∃ x, xs[i]? = some x ∧ d = .int x := by
  unfold nums at h
  rw [List.getElem?_map] at h
  cases e : xs[i]? with
  | none => rw [e] at h; cases h
  | some x => rw [e] at h; exact ⟨x, rfl, by cases h; rfl⟩
theorem tr_int {v : V} {i : Int} (h : Tr K H v (.int i)) : v = .int i := by cases h; rfl
theorem tr_bl {v : V} {i : Bool} (h : Tr K H v (.bool i)) : v = .bl i := by cases h; rfl
theorem tr_str {v : V} {i : Str} (h : Tr K H v (.str i)) : v = .str i := by cases h; rfl
theorem tr_non {v : V} (h : Tr K H v .none) : v = .non := by cases h; rfl
theorem tr_lst {v : V} {ds : List PyData} (h : Tr K H v (.list ds)) : ∃ a xs, v = .ref a ∧ SqL K H a xs ∧ Trs K H xs ds := by
  cases h with
  | lst h t => exact ⟨_, _, rfl, h, t⟩
theorem tr_tup {v : V} {ds : List PyData} (h : Tr K H v (.tuple ds)) : ∃ a xs, v = .ref a ∧ SqT K H a xs ∧ Trs K H xs ds := by
  cases h with
  | tup h t => exact ⟨_, _, rfl, h, t⟩
theorem tr_dct {v : V} {ds : List (PyData × PyData)} (h : Tr K H v (.dict ds)) (hd : ∀ x ∈ ds, x.1 ≠ .none) : ∃ a kvs, v = .ref a ∧ Rd H a (.dK kvs) ∧ Trk K H kvs ds := by
  cases h with
  | dct h t => exact ⟨_, _, rfl, h, t⟩
  | rw a => exact absurd rfl (hd _ List.mem_cons_self)
  | exc0 h => exact absurd rfl (hd _ List.mem_cons_self)
  | exc1 h hx t => exact absurd rfl (hd _ List.mem_cons_self)
end

/-! ## what a frame knows -/
/-- a changing object that one name alone holds -/
inductive Ow where
  | lst (ds : List PyData)
  | dct (kvs : List (Key × PyData))
  | dtt (kvs : List (List Key × PyData))
/-- a tree in which it is told what is one's own -/
inductive PTr where
  | st (d : PyData)
  /-- a list whose items stay -/
  | ls (ds : List PyData)
  | lst (ts : List PTr)
  | tup (ts : List PTr)
  | dct (kvs : List (Key × PTr))
mutual
def PTr.d : PTr → PyData
  | .st d => d
  | .ls ds => .list ds
  | .lst ts => .list (PTr.ds ts)
  | .tup ts => .tuple (PTr.ds ts)
  | .dct kvs => .dict (PTr.dk kvs)
def PTr.ds : List PTr → List PyData
  | [] => []
  | t :: r => t.d :: PTr.ds r
def PTr.dk : List (Key × PTr) → List (PyData × PyData)
  | [] => []
  | (k, t) :: r => (keyD k, t.d) :: PTr.dk r
end
/-- what stands in a slot -/
inductive Sl where
  | no
  | val (d : PyData)
  | own (o : Ow)
  | io (j : Nat) (o : Ow)
  | raw (v : V)
  /-- a tree of one's own, its objects at fp -/
  | prv (t : PTr) (fp : List Addr)
def Sl.ow : Sl → Option Ow
  | .own o => some o
  | .io _ o => some o
  | _ => none
/-- what an expression gives: a tree that stays; a list that may be read now; a new object; a thing by its value -/
inductive Kd where
  | st (d : PyData)
  | ls (ds : List PyData)
  | fr (o : Ow)
  | raw (v : V)
  /-- the changing object in this slot -/
  | at (i : Nat)
  /-- a tree that may be read now -/
  | nw (d : PyData)
  /-- a new tree of one's own -/
  | ft (t : PTr)
def Kd.firm : Kd → Bool
  | .ls _ => false
  | .nw _ => false
  | _ => true

def flatD : PyData → Bool
  | .none => true
  | .bool _ => true
  | .int _ => true
  | .str _ => true
  | _ => false
def toV : PyData → V
  | .none => .non
  | .bool b => .bl b
  | .int i => .int i
  | .str x => .str x
  | _ => .non
mutual
/-- a tree: what is not in the stable heap stands at fp -/
inductive TrP (K : PySem.W.Frag) (S H : Hp) : List Addr → V → PTr → Prop
  | st {v : V} {d : PyData} (h : Tr K S v d) : TrP K S H [] v (.st d)
  | ls {a : Addr} {xs : List V} {ds : List PyData} (h : H a = some (.lst xs)) (t : Trs K S xs ds) : TrP K S H [a] (.ref a) (.ls ds)
  | lst {a : Addr} {xs : List V} {ds : List PTr} {fp : List Addr} (h : H a = some (.lst xs)) (t : TrPs K S H fp xs ds) : TrP K S H (a :: fp) (.ref a) (.lst ds)
  | tup {a : Addr} {xs : List V} {ds : List PTr} {fp : List Addr} (h : H a = some (.tup xs)) (t : TrPs K S H fp xs ds) : TrP K S H (a :: fp) (.ref a) (.tup ds)
  | dct {a : Addr} {kvs : List (Key × V)} {ds : List (Key × PTr)} {fp : List Addr} (h : H a = some (.dK kvs)) (t : TrPk K S H fp kvs ds) : TrP K S H (a :: fp) (.ref a) (.dct ds)
inductive TrPs (K : PySem.W.Frag) (S H : Hp) : List Addr → List V → List PTr → Prop
  | nil : TrPs K S H [] [] []
  | cons {v : V} {vs : List V} {d : PTr} {ds : List PTr} {f1 f2 : List Addr} (h : TrP K S H f1 v d) (t : TrPs K S H f2 vs ds) : TrPs K S H (f1 ++ f2) (v :: vs) (d :: ds)
inductive TrPk (K : PySem.W.Frag) (S H : Hp) : List Addr → List (Key × V) → List (Key × PTr) → Prop
  | nil : TrPk K S H [] [] []
  | cons {k : Key} {v : V} {vs : List (Key × V)} {d : PTr} {ds : List (Key × PTr)} {f1 f2 : List Addr} (h : TrP K S H f1 v d) (t : TrPk K S H f2 vs ds) : TrPk K S H (f1 ++ f2) ((k, v) :: vs) ((k, d) :: ds)
end
theorem app_all {α : Type} {P : α → Prop} {a b : List α} (h : ∀ x ∈ a ++ b, P x) : (∀ x ∈ a, P x) ∧ ∀ x ∈ b, P x := ⟨fun x m => h x (List.mem_append_left _ m), fun x m => h x (List.mem_append_right _ m)⟩
mutual
theorem TrP.ext {K : PySem.W.Frag} {S S' H H' : Hp} (s : Same S S') : ∀ {fp : List Addr} {v : V} {d : PTr}, TrP K S H fp v d → (∀ a ∈ fp, H' a = H a) → TrP K S' H' fp v d
  | _, _, _, .st h, _ => .st (h.mono s)
  | _, _, _, .ls h t, e => .ls ((e _ List.mem_cons_self).trans h) (t.mono s)
  | _, _, _, .lst h t, e => .lst ((e _ List.mem_cons_self).trans h) (TrPs.ext s t fun a m => e a (List.mem_cons_of_mem _ m))
  | _, _, _, .tup h t, e => .tup ((e _ List.mem_cons_self).trans h) (TrPs.ext s t fun a m => e a (List.mem_cons_of_mem _ m))
  | _, _, _, .dct h t, e => .dct ((e _ List.mem_cons_self).trans h) (TrPk.ext s t fun a m => e a (List.mem_cons_of_mem _ m))
theorem TrPs.ext {K : PySem.W.Frag} {S S' H H' : Hp} (s : Same S S') : ∀ {fp : List Addr} {v : List V} {d : List PTr}, TrPs K S H fp v d → (∀ a ∈ fp, H' a = H a) → TrPs K S' H' fp v d
  | _, _, _, .nil, _ => .nil
  | _, _, _, .cons h t, e => .cons (TrP.ext s h (app_all e).1) (TrPs.ext s t (app_all e).2)
theorem TrPk.ext {K : PySem.W.Frag} {S S' H H' : Hp} (s : Same S S') : ∀ {fp : List Addr} {v : List (Key × V)} {d : List (Key × PTr)}, TrPk K S H fp v d → (∀ a ∈ fp, H' a = H a) → TrPk K S' H' fp v d
  | _, _, _, .nil, _ => .nil
  | _, _, _, .cons h t, e => .cons (TrP.ext s h (app_all e).1) (TrPk.ext s t (app_all e).2)
end
mutual
theorem TrP.dom {K : PySem.W.Frag} {S H : Hp} : ∀ {fp : List Addr} {v : V} {d : PTr}, TrP K S H fp v d → ∀ a ∈ fp, ∃ o, H a = some o ∧ ¬ Hard o
  | _, _, _, .st h, a, m => absurd m (by simp)
  | _, _, _, .ls h t, a, m => by
    have e := List.mem_singleton.mp m
    exact ⟨_, by rw [e]; exact h, by rintro (⟨ps, z⟩ | ⟨f, z⟩) <;> cases z⟩
  | _, _, _, .lst h t, a, m => by
    rcases List.mem_cons.mp m with e | m
    · exact ⟨_, by rw [e]; exact h, by rintro (⟨ps, z⟩ | ⟨f, z⟩) <;> cases z⟩
    · exact TrPs.dom t a m
  | _, _, _, .tup h t, a, m => by
    rcases List.mem_cons.mp m with e | m
    · exact ⟨_, by rw [e]; exact h, by rintro (⟨ps, z⟩ | ⟨f, z⟩) <;> cases z⟩
    · exact TrPs.dom t a m
  | _, _, _, .dct h t, a, m => by
    rcases List.mem_cons.mp m with e | m
    · exact ⟨_, by rw [e]; exact h, by rintro (⟨ps, z⟩ | ⟨f, z⟩) <;> cases z⟩
    · exact TrPk.dom t a m
theorem TrPs.dom {K : PySem.W.Frag} {S H : Hp} : ∀ {fp : List Addr} {v : List V} {d : List PTr}, TrPs K S H fp v d → ∀ a ∈ fp, ∃ o, H a = some o ∧ ¬ Hard o
  | _, _, _, .nil, a, m => absurd m (by simp)
  | _, _, _, .cons h t, a, m => by
    rcases List.mem_append.mp m with m | m
    · exact TrP.dom h a m
    · exact TrPs.dom t a m
theorem TrPk.dom {K : PySem.W.Frag} {S H : Hp} : ∀ {fp : List Addr} {v : List (Key × V)} {d : List (Key × PTr)}, TrPk K S H fp v d → ∀ a ∈ fp, ∃ o, H a = some o ∧ ¬ Hard o
  | _, _, _, .nil, a, m => absurd m (by simp)
  | _, _, _, .cons h t, a, m => by
    rcases List.mem_append.mp m with m | m
    · exact TrP.dom h a m
    · exact TrPk.dom t a m
end
mutual
/-- seen in a heap that has all of it -/
theorem TrP.tr {K : PySem.W.Frag} {S H M : Hp} (s : Same S M) : ∀ {fp : List Addr} {v : V} {d : PTr}, TrP K S H fp v d → (∀ a ∈ fp, M a = H a) → Tr K M v d.d
  | _, _, _, .st h, _ => h.mono s
  | _, _, _, .ls h t, e => .lst (.inl (.inl ((e _ List.mem_cons_self).trans h))) (t.mono s)
  | _, _, _, .lst h t, e => .lst (.inl (.inl ((e _ List.mem_cons_self).trans h))) (TrPs.tr s t fun a m => e a (List.mem_cons_of_mem _ m))
  | _, _, _, .tup h t, e => .tup (.inl (.inl ((e _ List.mem_cons_self).trans h))) (TrPs.tr s t fun a m => e a (List.mem_cons_of_mem _ m))
  | _, _, _, .dct h t, e => .dct (.inl ((e _ List.mem_cons_self).trans h)) (TrPk.tr s t fun a m => e a (List.mem_cons_of_mem _ m))
theorem TrPs.tr {K : PySem.W.Frag} {S H M : Hp} (s : Same S M) : ∀ {fp : List Addr} {v : List V} {d : List PTr}, TrPs K S H fp v d → (∀ a ∈ fp, M a = H a) → Trs K M v (PTr.ds d)
  | _, _, _, .nil, _ => .nil
  | _, _, _, .cons h t, e => .cons (TrP.tr s h (app_all e).1) (TrPs.tr s t (app_all e).2)
theorem TrPk.tr {K : PySem.W.Frag} {S H M : Hp} (s : Same S M) : ∀ {fp : List Addr} {v : List (Key × V)} {d : List (Key × PTr)}, TrPk K S H fp v d → (∀ a ∈ fp, M a = H a) → Trk K M v (PTr.dk d)
  | _, _, _, .nil, _ => .nil
  | _, _, _, .cons h t, e => .cons (TrP.tr s h (app_all e).1) (TrPk.tr s t (app_all e).2)
end
theorem TrPs.of {K : PySem.W.Frag} {S H : Hp} : ∀ {vs : List V} {ds : List PyData}, Trs K S vs ds → TrPs K S H [] vs (ds.map .st)
  | _, _, .nil => .nil
  | _, _, .cons h t => .cons (f1 := []) (f2 := []) (.st h) (TrPs.of t)
theorem ds_st : ∀ ds : List PyData, PTr.ds (ds.map .st) = ds
  | [] => rfl
  | d :: r => by
    show PTr.d (.st d) :: PTr.ds (r.map .st) = d :: r
    rw [ds_st r]; rfl
theorem ds_len : ∀ ts : List PTr, (PTr.ds ts).length = ts.length
  | [] => rfl
  | t :: r => congrArg (· + 1) (ds_len r)
theorem ds_get : ∀ (ts : List PTr) (n : Nat), (PTr.ds ts)[n]? = (ts[n]?).map PTr.d
  | [], n => by simp [PTr.ds]
  | t :: r, 0 => rfl
  | t :: r, n + 1 => by
    have := ds_get r n
    simpa [PTr.ds] using this
theorem ds_app : ∀ (a b : List PTr), PTr.ds (a ++ b) = PTr.ds a ++ PTr.ds b
  | [], b => rfl
  | t :: r, b => by
    show t.d :: PTr.ds (r ++ b) = _
    rw [ds_app r b]; rfl
theorem TrPs.len {K : PySem.W.Frag} {S H : Hp} : ∀ {fp : List Addr} {vs : List V} {ds : List PTr}, TrPs K S H fp vs ds → vs.length = ds.length
  | _, _, _, .nil => rfl
  | _, _, _, .cons h t => congrArg (· + 1) t.len
/-- one of them, the others as they are -/
theorem TrPs.split {K : PySem.W.Frag} {S H : Hp} : ∀ {fp : List Addr} {vs : List V} {ds : List PTr} (n : Nat) {v : V} {d : PTr}, TrPs K S H fp vs ds → vs[n]? = some v → ds[n]? = some d → ∃ f0 f f1, fp = f0 ++ (f ++ f1) ∧ TrP K S H f v d ∧
    ∀ (S' H' : Hp) (f' : List Addr) (d' : PTr), Same S S' → TrP K S' H' f' v d' → (∀ a ∈ f0, H' a = H a) → (∀ a ∈ f1, H' a = H a) → TrPs K S' H' (f0 ++ (f' ++ f1)) vs (ds.set n d')
  | _, _, _, _, _, _, .nil, e, _ => by simp at e
  | _, _, _, 0, v, d, .cons (f1 := f1) (f2 := f2) h t, e1, e2 => by
    simp at e1 e2
    subst e1 e2
    exact ⟨[], f1, f2, rfl, h, fun S' H' f' d' s t' _ z => TrPs.cons (f1 := f') (f2 := f2) t' (t.ext s z)⟩
  | _, _, _, n + 1, v, d, .cons (f1 := g1) (f2 := g2) h t, e1, e2 => by
    obtain ⟨f0, f, f1, e, tf, k⟩ := TrPs.split n t (by simpa using e1) (by simpa using e2)
    subst e
    refine ⟨g1 ++ f0, f, f1, by simp, tf, fun S' H' f' d' s t' z0 z1 => ?_⟩
    have := TrPs.cons (h.ext s fun a m => z0 a (List.mem_append_left _ m)) (k S' H' f' d' s t' (fun a m => z0 a (List.mem_append_right _ m)) z1)
    simpa using this
theorem TrPs.snoc {K : PySem.W.Frag} {S H : Hp} {f2 : List Addr} {v : V} {d : PTr} (h : TrP K S H f2 v d) : ∀ {fp : List Addr} {vs : List V} {ds : List PTr}, TrPs K S H fp vs ds → TrPs K S H (fp ++ f2) (vs ++ [v]) (ds ++ [d])
  | _, _, _, .nil => by
    have := TrPs.cons h (.nil (K := K) (S := S) (H := H))
    simpa using this
  | _, _, _, .cons h1 t => by
    have := TrPs.cons h1 (TrPs.snoc h t)
    simpa using this
/-- the stable heap with what stood at gp -/
noncomputable def layS (S H : Hp) (gp : List Addr) : Hp := by
  classical
  exact fun a => if a ∈ gp then H a else S a
theorem layS_in {S H : Hp} {gp : List Addr} {a : Addr} (h : a ∈ gp) : layS S H gp a = H a := by unfold layS; exact if_pos h
theorem layS_out {S H : Hp} {gp : List Addr} {a : Addr} (h : a ∉ gp) : layS S H gp a = S a := by unfold layS; exact if_neg h
theorem layS_ext {S H : Hp} {gp : List Addr} (n : ∀ a ∈ gp, S a = none) : Same S (layS S H gp) := fun a o e => by
  rw [layS_out fun m => by rw [n a m] at e; cases e]
  exact e
theorem TrP.frz {K : PySem.W.Frag} {S H : Hp} {fp : List Addr} {v : V} {d : PTr} (h : TrP K S H fp v d) (n : ∀ a ∈ fp, S a = none) : Tr K (layS S H fp) v d.d :=
  TrP.tr (layS_ext n) h fun _ m => layS_in m
theorem tr_toV {K : PySem.W.Frag} {H : Hp} {d : PyData} (h : flatD d = true) : Tr K H (toV d) d := by
  cases d with
  | none => exact .non
  | bool b => exact .bl b
  | int i => exact .int i
  | str x => exact .str x
  | list x => cases h
  | tuple x => cases h
  | dict x => cases h

/-- the frame's entry: what stays for ever, all that stood, what was handed in to be changed -/
structure Bs where
  S0 : Hp
  H0 : Hp
  ls : List Addr

section
variable (K : PySem.W.Frag)
def OwOk (S H : Hp) (l : Addr) : Ow → Prop
  | .lst ds => ∃ xs, H l = some (.lst xs) ∧ Trs K S xs ds
  | .dct kvs => ∃ xs : List (Key × V), H l = some (.dK xs) ∧ Paired (fun p q => p.1 = q.1 ∧ Tr K S p.2 q.2) xs kvs
  | .dtt kvs => ∃ xs : List (List Key × V), H l = some (.dT xs) ∧ Paired (fun p q => p.1 = q.1 ∧ Tr K S p.2 q.2) xs kvs
def SlOk (B : Bs) (S H : Hp) (x : Option V) : Sl → Prop
  | .no => True
  | .val d => ∃ v, x = some v ∧ Tr K S v d
  | .own o => ∃ l, x = some (.ref l) ∧ S l = none ∧ OwOk K S H l o ∧ B.H0 l = none
  | .io j o => ∃ l, x = some (.ref l) ∧ S l = none ∧ OwOk K S H l o ∧ B.ls[j]? = some l
  | .raw v => x = some v
  | .prv d fp => ∃ v, x = some v ∧ TrP K S H fp v d ∧ fp.Nodup ∧ ∀ a ∈ fp, S a = none ∧ B.H0 a = none
end
/-- a is of what the slot holds for itself -/
def FpS (s : Sl) (x : Option V) (a : Addr) : Prop := (∃ o, s.ow = some o ∧ x = some (.ref a)) ∨ ∃ (d : PTr) (fp : List Addr), s = .prv d fp ∧ a ∈ fp
def FpAt (σ : St) (sl : List Sl) (j : Nat) (a : Addr) : Prop := ∃ s x, sl[j]? = some s ∧ σ[j]? = some x ∧ FpS s x a
def OwnAt (σ : St) (sl : List Sl) (a : Addr) : Prop := ∃ j, FpAt σ sl j a
theorem fpS_no {x : Option V} {a : Addr} : ¬ FpS .no x a := fun h => by rcases h with ⟨o, h, _⟩ | ⟨d, fp, h, _⟩ <;> cases h
theorem fpS_val {d : PyData} {x : Option V} {a : Addr} : ¬ FpS (.val d) x a := fun h => by rcases h with ⟨o, h, _⟩ | ⟨d, fp, h, _⟩ <;> cases h
theorem fpS_raw {v : V} {x : Option V} {a : Addr} : ¬ FpS (.raw v) x a := fun h => by rcases h with ⟨o, h, _⟩ | ⟨d, fp, h, _⟩ <;> cases h
theorem fpS_own {o : Ow} {x : Option V} {a : Addr} : FpS (.own o) x a ↔ x = some (.ref a) := by
  constructor
  · rintro (⟨o, _, h⟩ | ⟨d, fp, h, _⟩)
    · exact h
    · cases h
  · exact fun h => .inl ⟨o, rfl, h⟩
theorem fpS_io {j : Nat} {o : Ow} {x : Option V} {a : Addr} : FpS (.io j o) x a ↔ x = some (.ref a) := by
  constructor
  · rintro (⟨o, _, h⟩ | ⟨d, fp, h, _⟩)
    · exact h
    · cases h
  · exact fun h => .inl ⟨o, rfl, h⟩
theorem fpS_prv {d : PTr} {fp : List Addr} {x : Option V} {a : Addr} : FpS (.prv d fp) x a ↔ a ∈ fp := by
  constructor
  · rintro (⟨o, h, _⟩ | ⟨d, fp, h, m⟩)
    · cases h
    · cases h; exact m
  · exact fun h => .inr ⟨d, fp, rfl, h⟩
theorem FpAt.of_ow {σ : St} {sl : List Sl} {j : Nat} {s : Sl} {o : Ow} {a : Addr} (h : sl[j]? = some s) (ho : s.ow = some o) (hx : σ[j]? = some (some (.ref a))) : FpAt σ sl j a := ⟨s, _, h, hx, .inl ⟨o, ho, rfl⟩⟩

/-- no table -/
def NoT (S : Hp) : Prop := ∀ a ps, S a ≠ some (.tbl ps)
/-- the table of modules is known: no list, no dict of ours -/
def IsSm (φ : Heap → Prop) : Prop := ∀ h : Heap, φ h → ∃ o es ep, h.get? sysModules = some o ∧ o.data = .dict es ep
def SmB (B : Bs) : Prop := (∃ φ, B.H0 sysModules = some (.ext φ) ∧ IsSm φ) ∧ sysModules ∉ B.ls
structure Stt [Tb] (K : PySem.W.Frag) (B : Bs) (S H : Hp) (σ : St) (sl : List Sl) : Prop where
  s0 : Same B.S0 S
  sh : Same S H
  new : ∀ a o, S a = some o → B.S0 a = none → B.H0 a = none
  keep : ∀ a o, B.H0 a = some o → a ∉ B.ls → (∀ ps, o ≠ .tbl ps) → H a = some o
  dom : ∀ a o, B.H0 a = some o → ∃ o', H a = some o'
  lsd : ∀ l, l ∈ B.ls → ∃ o, B.H0 l = some o
  len : σ.length = sl.length
  slot : ∀ (i : Nat) (s : Sl), sl[i]? = some s → ∃ x, σ[i]? = some x ∧ SlOk K B S H x s
  dis : ∀ (i j : Nat) (a : Addr), FpAt σ sl i a → FpAt σ sl j a → i = j
  tabs : LamX.Tabs Tb.T H
  tbk : ∀ a ps, B.H0 a = some (.tbl ps) → ∃ ps', H a = some (.tbl ps')
  snt : NoT S
  sm : SmB B

/-- from one state to a later one within an expression; p: nothing that stood was changed -/
structure Adv (σ : St) (sl : List Sl) (S H : Hp) (sl' : List Sl) (S' H' : Hp) (p : Bool) : Prop where
  s : Same S S'
  n : ∀ a o, S' a = some o → S a = none → H a = none
  d : ∀ a o, H a = some o → ∃ o', H' a = some o'
  k : ∀ a o, H a = some o → (∀ ps, o ≠ .tbl ps) → ¬ OwnAt σ sl a → H' a = some o
  h : p = true → Sam H H'
  w : ∀ a, OwnAt σ sl' a → OwnAt σ sl a

theorem Hard.nt {o : HO} (h : ¬ Hard o) : ∀ ps, o ≠ .tbl ps := fun ps z => h (.inl ⟨ps, z⟩)
/-- tables where another object was written -/
theorem tabs_upd {T : List (Addr × Str)} {H : Hp} {l : Addr} {o u : HO} (t : LamX.Tabs T H) (h : H l = some o) (n : ¬ Hard o) : LamX.Tabs T (upd H l u) := fun p hp => by
  obtain ⟨ps, h1, h2, h3⟩ := t p hp
  refine ⟨ps, by rw [upd_ne fun z => n (.inl ⟨ps, by rw [z, h] at h1; exact Option.some.inj h1⟩)]; exact h1, h2, fun pos cv hc => ?_⟩
  obtain ⟨c, e1, e2⟩ := h3 pos cv hc
  have hc : c ≠ l := fun z => n (.inr (by
    rw [z, h] at e2
    unfold LamX.CodeO at e2
    exact ⟨_, Option.some.inj e2⟩))
  exact ⟨c, e1, by rw [upd_ne hc]; exact e2⟩
theorem tbk_upd {H0 H : Hp} {l : Addr} {o u : HO} (t : ∀ a ps, H0 a = some (.tbl ps) → ∃ ps', H a = some (.tbl ps')) (h : H l = some o) (n : ¬ Hard o) : ∀ a ps, H0 a = some (.tbl ps) → ∃ ps', upd H l u a = some (.tbl ps') := fun a ps e => by
  obtain ⟨q, e1⟩ := t a ps e
  exact ⟨q, by rw [upd_ne fun z => n (.inl ⟨q, by rw [z, h] at e1; exact Option.some.inj e1⟩)]; exact e1⟩
theorem tabs_new {T : List (Addr × Str)} {H : Hp} {l : Addr} {u : HO} (t : LamX.Tabs T H) (h : H l = none) : LamX.Tabs T (upd H l u) := t.ext fun b o e => by rw [upd_ne (ne_of_none e h)]; exact e
section
variable [Tb] {K : PySem.W.Frag} {B : Bs} {S S' S'' H H' H'' : Hp} {σ : St} {sl sl' sl'' : List Sl} {p q : Bool} {a l : Addr} {o : HO} {v : V}
theorem Adv.refl : Adv σ sl S H sl S H p := ⟨.refl _, fun a o h1 h2 => (by rw [h1] at h2; cases h2), fun _ o h => ⟨o, h⟩, fun _ _ h _ _ => h, fun _ => .refl _, fun _ h => h⟩
theorem Adv.trans (x : Adv σ sl S H sl' S' H' p) (y : Adv σ sl' S' H' sl'' S'' H'' q) : Adv σ sl S H sl'' S'' H'' (p && q) where
  s := x.s.trans y.s
  n := fun a o h1 h2 => by
    cases e : S' a with
    | some o' => exact x.n a o' e h2
    | none =>
      have h3 := y.n a o h1 e
      cases e2 : H a with
      | none => rfl
      | some o2 =>
        obtain ⟨o3, e3⟩ := x.d a o2 e2
        rw [e3] at h3
        cases h3
  d := fun a o h => by
    obtain ⟨o1, e⟩ := x.d a o h
    exact y.d a o1 e
  k := fun a o h ht h2 => y.k a o (x.k a o h ht h2) ht fun z => h2 (x.w a z)
  h := fun e => by
    obtain ⟨e1, e2⟩ := Bool.and_eq_true_iff.mp e
    exact (x.h e1).trans (y.h e2)
  w := fun a h => x.w a (y.w a h)
theorem Adv.weak (x : Adv σ sl S H sl' S' H' p) (h : q = true → p = true) : Adv σ sl S H sl' S' H' q := ⟨x.s, x.n, x.d, x.k, fun e => x.h (h e), x.w⟩
theorem Adv.same (h : Same H H') : Adv σ sl S H sl S H' p := ⟨.refl _, fun a o h1 h2 => (by rw [h1] at h2; cases h2), fun _ o e => ⟨o, h _ _ e⟩, fun _ _ e _ _ => h _ _ e, fun _ => same_sam h, fun _ e => e⟩
theorem OwOk.ext {o : Ow} (x : OwOk K S H l o) (s : Same S S') (h : H' l = H l) : OwOk K S' H' l o := by
  cases o with
  | lst ds => obtain ⟨xs, e, t⟩ := x; exact ⟨xs, h.trans e, t.mono s⟩
  | dct ds => obtain ⟨xs, e, t⟩ := x; exact ⟨xs, h.trans e, Paired.mapP t fun a b z => ⟨z.1, z.2.mono s⟩⟩
  | dtt ds => obtain ⟨xs, e, t⟩ := x; exact ⟨xs, h.trans e, Paired.mapP t fun a b z => ⟨z.1, z.2.mono s⟩⟩
theorem OwOk.soft {o : Ow} (x : OwOk K S H l o) : ∃ u, H l = some u ∧ ¬ Hard u := by
  cases o with
  | lst ds => obtain ⟨xs, e, t⟩ := x; exact ⟨_, e, by rintro (⟨ps, z⟩ | ⟨f, z⟩) <;> cases z⟩
  | dct ds => obtain ⟨xs, e, t⟩ := x; exact ⟨_, e, by rintro (⟨ps, z⟩ | ⟨f, z⟩) <;> cases z⟩
  | dtt ds => obtain ⟨xs, e, t⟩ := x; exact ⟨_, e, by rintro (⟨ps, z⟩ | ⟨f, z⟩) <;> cases z⟩
theorem OwOk.some {o : Ow} (x : OwOk K S H l o) : ∃ u, H l = some u := by
  obtain ⟨u, e, _⟩ := x.soft
  exact ⟨u, e⟩
/-- what stands for itself in a slot stands somewhere else than all that stays -/
theorem SlOk.fp {s : Sl} {x : Option V} (ok : SlOk K B S H x s) (h : FpS s x a) : S a = none ∧ ∃ u, H a = some u ∧ ¬ Hard u := by
  cases s with
  | no => exact absurd h fpS_no
  | val d => exact absurd h fpS_val
  | raw d => exact absurd h fpS_raw
  | own o =>
    obtain ⟨l, e, n, ow, _⟩ := ok
    rw [fpS_own.mp h] at e
    cases e
    exact ⟨n, ow.soft⟩
  | io j o =>
    obtain ⟨l, e, n, ow, _⟩ := ok
    rw [fpS_io.mp h] at e
    cases e
    exact ⟨n, ow.soft⟩
  | prv d fp =>
    obtain ⟨v, e, t, nd, n⟩ := ok
    have m := fpS_prv.mp h
    exact ⟨(n a m).1, t.dom a m⟩
/-- a slot's content in another state that agrees where the slot holds objects for itself -/
theorem SlOk.ext {s : Sl} {x : Option V} (ok : SlOk K B S H x s) (ss : Same S S') (h : ∀ a, FpS s x a → H' a = H a) (n : ∀ a, FpS s x a → S' a = none) : SlOk K B S' H' x s := by
  cases s with
  | no => trivial
  | val d => obtain ⟨v, e1, t⟩ := ok; exact ⟨v, e1, t.mono ss⟩
  | raw v => exact ok
  | own o =>
    obtain ⟨l, e1, n1, ow, fr⟩ := ok
    have m := fpS_own (o := o) (x := x) (a := l) |>.mpr e1
    exact ⟨l, e1, n l m, ow.ext ss (h l m), fr⟩
  | io j o =>
    obtain ⟨l, e1, n1, ow, fr⟩ := ok
    have m := fpS_io (j := j) (o := o) (x := x) (a := l) |>.mpr e1
    exact ⟨l, e1, n l m, ow.ext ss (h l m), fr⟩
  | prv d fp =>
    obtain ⟨v, e, t, nd, n2⟩ := ok
    exact ⟨v, e, t.ext ss fun a m => h a (fpS_prv.mpr m), nd, fun a m => ⟨n a (fpS_prv.mpr m), (n2 a m).2⟩⟩
/-- the state in a heap that has grown -/
theorem Stt.growS (I : Stt K B S H σ sl) (s : Same S S') (h : Sam H H') (sh : Same S' H') (n : ∀ a o, S' a = some o → S a = none → H a = none) (tb : LamX.Tabs Tb.T H') (nt : NoT S') : Stt K B S' H' σ sl where
  s0 := I.s0.trans s
  sh := sh
  new := fun a o e e0 => by
    cases e1 : S a with
    | some o1 => exact I.new a o1 e1 e0
    | none =>
      have e2 := n a o e e1
      cases e3 : B.H0 a with
      | none => rfl
      | some o3 =>
        obtain ⟨o4, e4⟩ := I.dom a o3 e3
        rw [e4] at e2
        cases e2
  keep := fun a o e hn ht => h.st _ _ (I.keep a o e hn ht) ht
  dom := fun a o e => by
    obtain ⟨o', e'⟩ := I.dom a o e
    exact h.dom e'
  lsd := I.lsd
  len := I.len
  slot := fun i s' e => by
    obtain ⟨x, hx, ok⟩ := I.slot i s' e
    refine ⟨x, hx, ok.ext s (fun a m => ?_) fun a m => ?_⟩
    · obtain ⟨_, u, eu, nu⟩ := ok.fp m
      exact (h.st _ _ eu (Hard.nt nu)).trans eu.symm
    · obtain ⟨n1, u, eu, nu⟩ := ok.fp m
      cases e2 : S' a with
      | none => rfl
      | some o2 => rw [n a o2 e2 n1] at eu; cases eu
  dis := I.dis
  tabs := tb
  tbk := fun a ps e => by
    obtain ⟨q, e1⟩ := I.tbk a ps e
    exact h.tb a q e1
  snt := nt
  sm := I.sm
theorem Stt.grow (I : Stt K B S H σ sl) (s : Same S S') (h : Same H H') (sh : Same S' H') (n : ∀ a o, S' a = some o → S a = none → H a = none) (nt : NoT S') : Stt K B S' H' σ sl := I.growS s (same_sam h) sh n (I.tabs.ext h) nt
theorem noT_upd {S : Hp} {l : Addr} {o : HO} (h : NoT S) (ho : ∀ ps, o ≠ .tbl ps) : NoT (upd S l o) := fun a ps e => by
  by_cases z : a = l
  · rw [z, upd_same] at e; exact ho ps (Option.some.inj e)
  · rw [upd_ne z] at e; exact h a ps e
theorem Stt.smH (I : Stt K B S H σ sl) : ∃ φ, H sysModules = some (.ext φ) ∧ IsSm φ := by
  obtain ⟨⟨φ, e, h⟩, n⟩ := I.sm
  exact ⟨φ, I.keep _ _ e n (fun ps z => nomatch z), h⟩
theorem Stt.sm0 (I : Stt K B S H σ sl) : SmB ⟨S, H, []⟩ := ⟨I.smH, fun h => nomatch h⟩
theorem Stt.sm1 (I : Stt K B S H σ sl) {l : Addr} {o : Ow} (x : OwOk K S H l o) : SmB ⟨S, H, [l]⟩ := ⟨I.smH, fun h => by
  obtain ⟨φ, e, _⟩ := I.smH
  obtain ⟨u, eu, nu⟩ := x.soft
  rw [List.mem_singleton.mp h, eu] at e
  cases e
  exact nu (.inr ⟨φ, rfl⟩)⟩
theorem Stt.val (I : Stt K B S H σ sl) {i : Nat} {d : PyData} (h : sl[i]? = some (.val d)) : ∃ v, σ[i]? = some (some v) ∧ Tr K S v d := by
  obtain ⟨x, hx, v, rfl, t⟩ := I.slot i _ h
  exact ⟨v, hx, t⟩
theorem Stt.raw (I : Stt K B S H σ sl) {i : Nat} {v : V} (h : sl[i]? = some (.raw v)) : σ[i]? = some (some v) := by
  obtain ⟨x, hx, e⟩ := I.slot i _ h
  have e' : x = Option.some v := e
  rw [hx, e']
theorem Stt.own (I : Stt K B S H σ sl) {i : Nat} {s : Sl} {o : Ow} (h : sl[i]? = some s) (ho : s.ow = some o) : ∃ l, σ[i]? = some (some (.ref l)) ∧ S l = none ∧ OwOk K S H l o := by
  obtain ⟨x, hx, ok⟩ := I.slot i _ h
  cases s with
  | own o' =>
    cases ho
    obtain ⟨l, rfl, a, b, c⟩ := ok
    exact ⟨l, hx, a, b⟩
  | io j o' =>
    cases ho
    obtain ⟨l, rfl, a, b, c⟩ := ok
    exact ⟨l, hx, a, b⟩
  | no => cases ho
  | val d => cases ho
  | raw v => cases ho
  | prv d fp => cases ho
theorem Stt.ownAt (I : Stt K B S H σ sl) (h : OwnAt σ sl l) : S l = none ∧ ∃ u, H l = some u ∧ ¬ Hard u := by
  obtain ⟨j, s, x, h1, h2, h3⟩ := h
  obtain ⟨x', hx, ok⟩ := I.slot j s h1
  rw [h2] at hx
  cases hx
  exact ok.fp h3
/-- a new object stands -/
theorem Stt.laid (I : Stt K B S H σ sl) (hn : H l = none) : Stt K B S (upd H l o) σ sl :=
  I.grow (.refl _) (fun b u e => by rw [upd_ne (ne_of_none e hn)]; exact e) (fun b u e => by rw [upd_ne (ne_of_none (I.sh _ _ e) hn)]; exact I.sh _ _ e) (fun a o h1 h2 => by rw [h1] at h2; cases h2) I.snt
theorem same_new (hn : H l = none) : Same H (upd H l o) := fun b u e => by rw [upd_ne (ne_of_none e hn)]; exact e
theorem Stt.notIn (I : Stt K B S H σ sl) (hn : H l = none) : S l = none ∧ B.H0 l = none ∧ ¬ OwnAt σ sl l := by
  refine ⟨I.sh.free hn, ?_, fun h => ?_⟩
  · cases e : B.H0 l with
    | none => rfl
    | some o =>
      obtain ⟨o', e'⟩ := I.dom l o e
      rw [e'] at hn
      cases hn
  · obtain ⟨_, u, e, _⟩ := I.ownAt h
    rw [e] at hn
    cases hn
end
/-! ### one slot written -/
theorem fpAt_set {σ : St} {sl : List Sl} {i j : Nat} {x : Option V} {s : Sl} {a : Addr} (h : FpAt (σ.set i x) (sl.set i s) j a) : (j ≠ i ∧ FpAt σ sl j a) ∨ (j = i ∧ FpS s x a) := by
  obtain ⟨s', x', h1, h2, h3⟩ := h
  by_cases hj : j = i
  · subst hj
    have l1 : j < sl.length := by have := (List.getElem?_eq_some_iff.mp h1).1; rwa [List.length_set] at this
    have l2 : j < σ.length := by have := (List.getElem?_eq_some_iff.mp h2).1; rwa [List.length_set] at this
    rw [List.getElem?_set_self l1] at h1
    rw [List.getElem?_set_self l2] at h2
    cases h1
    cases h2
    exact .inr ⟨rfl, h3⟩
  · rw [List.getElem?_set_ne (Ne.symm hj)] at h1 h2
    exact .inl ⟨hj, s', x', h1, h2, h3⟩
/-- the slots alone -/
theorem fpAt_setS {σ : St} {sl : List Sl} {i j : Nat} {s : Sl} {a : Addr} (h : FpAt σ (sl.set i s) j a) : (j ≠ i ∧ FpAt σ sl j a) ∨ (j = i ∧ ∃ x, σ[i]? = some x ∧ FpS s x a) := by
  obtain ⟨s', x', h1, h2, h3⟩ := h
  by_cases hj : j = i
  · subst hj
    have l1 : j < sl.length := by have := (List.getElem?_eq_some_iff.mp h1).1; rwa [List.length_set] at this
    rw [List.getElem?_set_self l1] at h1
    cases h1
    exact .inr ⟨rfl, x', h2, h3⟩
  · rw [List.getElem?_set_ne (Ne.symm hj)] at h1
    exact .inl ⟨hj, s', x', h1, h2, h3⟩
theorem ownAt_set {σ : St} {sl : List Sl} {i : Nat} {x : Option V} {s : Sl} {a : Addr} (h : OwnAt (σ.set i x) (sl.set i s) a) : OwnAt σ sl a ∨ FpS s x a := by
  obtain ⟨j, h⟩ := h
  rcases fpAt_set h with ⟨_, h⟩ | ⟨_, h⟩
  · exact .inl ⟨j, h⟩
  · exact .inr h
theorem ownAt_setS {σ : St} {sl : List Sl} {i : Nat} {s : Sl} {a : Addr} (h : OwnAt σ (sl.set i s) a) : OwnAt σ sl a ∨ ∃ x, σ[i]? = some x ∧ FpS s x a := by
  obtain ⟨j, h⟩ := h
  rcases fpAt_setS h with ⟨_, h⟩ | ⟨_, h⟩
  · exact .inl ⟨j, h⟩
  · exact .inr h

/-! ## what an expression gives -/
def KdOk (K : PySem.W.Frag) (B : Bs) (σ : St) (sl : List Sl) (S H : Hp) (v : V) : Kd → Prop
  | .st d => Tr K S v d
  | .ls ds => ∃ a xs, v = .ref a ∧ SqL K H a xs ∧ Trs K S xs ds
  | .fr o => ∃ l, v = .ref l ∧ S l = none ∧ B.H0 l = none ∧ OwOk K S H l o ∧ ¬ OwnAt σ sl l
  | .raw u => v = u
  | .at i => σ[i]? = some (some v)
  | .nw d => Tr K H v d
  | .ft d => ∃ fp, TrP K S H fp v d ∧ fp.Nodup ∧ ∀ a ∈ fp, S a = none ∧ B.H0 a = none ∧ ¬ OwnAt σ sl a
section
variable [Tb] {K : PySem.W.Frag} {B : Bs} {S S' H H' : Hp} {σ : St} {sl sl' : List Sl} {p : Bool} {v : V} {k : Kd}
theorem Adv.notS {l : Addr} {u : HO} (a : Adv σ sl S H sl' S' H' p) (h : H l = some u) (n : S l = none) : S' l = none := by
  cases e2 : S' l with
  | none => rfl
  | some o2 => rw [a.n l o2 e2 n] at h; cases h
theorem KdOk.adv (x : KdOk K B σ sl S H v k) (a : Adv σ sl S H sl' S' H' p) (hk : (p || k.firm) = true) : KdOk K B σ sl' S' H' v k := by
  cases k with
  | st d => exact Tr.mono a.s x
  | ls ds =>
    have hp : p = true := by
      cases p with
      | true => rfl
      | false => cases hk
    obtain ⟨b, xs, e, h, t⟩ := x
    exact ⟨b, xs, e, (a.h hp).seq h, t.mono a.s⟩
  | fr o =>
    obtain ⟨l, e, n, n0, ow, na⟩ := x
    obtain ⟨u, eu, nu⟩ := ow.soft
    exact ⟨l, e, a.notS eu n, n0, ow.ext a.s ((a.k l u eu (Hard.nt nu) na).trans eu.symm), fun z => na (a.w l z)⟩
  | raw u => exact x
  | «at» i => exact x
  | nw d =>
    have hp : p = true := by
      cases p with
      | true => rfl
      | false => cases hk
    exact Tr.sam (a.h hp) x
  | ft d =>
    obtain ⟨fp, t, nd, h⟩ := x
    refine ⟨fp, t.ext a.s fun b m => ?_, nd, fun b m => ?_⟩
    · obtain ⟨u, eu, nu⟩ := t.dom b m
      exact (a.k b u eu (Hard.nt nu) (h b m).2.2).trans eu.symm
    · obtain ⟨u, eu, nu⟩ := t.dom b m
      obtain ⟨h1, h2, h3⟩ := h b m
      exact ⟨a.notS eu h1, h2, fun z => h3 (a.w b z)⟩
end
inductive KdsOk (K : PySem.W.Frag) (B : Bs) (σ : St) (sl : List Sl) (S H : Hp) : List V → List Kd → Prop
  | nil : KdsOk K B σ sl S H [] []
  | cons {v : V} {vs : List V} {k : Kd} {ks : List Kd} (h : KdOk K B σ sl S H v k) (t : KdsOk K B σ sl S H vs ks) : KdsOk K B σ sl S H (v :: vs) (k :: ks)
theorem KdsOk.adv [Tb] {K : PySem.W.Frag} {B : Bs} {S S' H H' : Hp} {σ : St} {sl sl' : List Sl} {p : Bool} (a : Adv σ sl S H sl' S' H' p) : ∀ {vs : List V} {ks : List Kd}, KdsOk K B σ sl S H vs ks → (p || ks.all Kd.firm) = true → KdsOk K B σ sl' S' H' vs ks
  | _, _, .nil, _ => .nil
  | _, _, .cons h t, hk => .cons (h.adv a (by
      cases p with
      | true => rfl
      | false => exact (Bool.and_eq_true_iff.mp hk).1)) (KdsOk.adv a t (by
      cases p with
      | true => rfl
      | false => exact (Bool.and_eq_true_iff.mp hk).2))

/-- a new object was not there before -/
def Frs (H : Hp) (v : V) : Kd → Prop
  | .fr _ => ∀ l, v = .ref l → H l = none
  | _ => True
/-! ## where code runs -/
/-- what else is known of a context: the code object, the name that its own lambdas bear, and more -/
structure Xt where
  cd : Value
  ql : Str
  ext : Cx → Prop
structure CxD where
  P : Program
  w : World
  K : PySem.W.Frag
  mg : Str → Option Value
  base : Heap
  N : List Str
  sc : Scope
  lv : Nat
  W : WX
  /-- not within a comprehension -/
  top : Bool
  xt : Xt
structure InCx (c : CxD) (X : Cx) : Prop where
  hP : X.prog = c.P
  hw : X.w = c.w
  hK : X.K = c.K
  hm : X.mg = c.mg
  hb : X.base = c.base
  hN : X.N = c.N
  calm : X.calm = true
  kind : X.env.scope.kind = .function
  gu : X.A.guards = some []
  rm : Room c.lv X.A
  v : ∀ x, Vis c.sc x → Vis X.env.scope x
  l : ∀ x, c.sc.names.lookup x = some .local → X.env.scope.names.lookup x = some .local
  g : ∀ x, c.sc.names.lookup x = some .globalImplicit → Gl X x
  f : ∀ x, c.sc.names.lookup x = some .cell ∨ c.sc.names.lookup x = some .free → X.env.scope.names.lookup x = some .cell ∨ X.env.scope.names.lookup x = some .free
  fn : ∀ x, c.sc.names.lookup x = some .cell → X.env.scope.names.lookup x = some .cell ∧ X.fn x = true
  po : PassesOwn (model X.prog X.w) X.A X.env X.xe
  tk : Takes X c.W
  tp : c.top = true → X.stack = X.env :: X.outer ∧ X.env.frame = some X.env.locals ∧ X.ex = []
  cd : X.env.code = c.xt.cd
  ql : X.env.qual = c.xt.ql
  xt : ∀ pn xe, c.xt.ext (X.tr pn xe)

section
variable [Tb]
/-- e gives k, and the slots are then as sl' says; p: nothing that stood is changed -/
def SemE (K : PySem.W.Frag) (B : Bs) (t : TE) (sl : List Sl) (p : Bool) (k : Kd) (sl' : List Sl) : Prop :=
  ∀ S H σ, Stt K B S H σ sl → ∀ Q : VK, (∀ v S' H', Stt K B S' H' σ sl' → Adv σ sl S H sl' S' H' p → KdOk K B σ sl' S' H' v k → Frs H v k → Q v H') → t σ H Q
def EV (c : CxD) (B : Bs) (e : Expr) (sl : List Sl) (p : Bool) (k : Kd) (sl' : List Sl) : Prop :=
  ∃ t, (∀ X, InCx c X → PE X e t) ∧ SemE c.K B t sl p k sl'
def SemT (K : PySem.W.Frag) (B : Bs) (t : TT) (sl : List Sl) (p : Bool) (b : Bool) (sl' : List Sl) : Prop :=
  ∀ S H σ, Stt K B S H σ sl → ∀ Q : Bool → Hp → Prop, (∀ S' H', Stt K B S' H' σ sl' → Adv σ sl S H sl' S' H' p → Q b H') → t σ H Q
def TV (c : CxD) (B : Bs) (e : Expr) (sl : List Sl) (p : Bool) (b : Bool) (sl' : List Sl) : Prop :=
  ∃ t, (∀ X, InCx c X → PT X e t) ∧ SemT c.K B t sl p b sl'
/-- and, or: a test whatever its whole is -/
def WV (c : CxD) (B : Bs) (e : Expr) (sl : List Sl) (p : Bool) (b : Bool) (sl' : List Sl) : Prop :=
  ∃ t, (∀ X, InCx c X → PW X e t) ∧ SemT c.K B t sl p b sl'
def SemA (K : PySem.W.Frag) (B : Bs) (t : TA) (sl : List Sl) (p : Bool) (ks : List Kd) (sl' : List Sl) : Prop :=
  ∀ S H σ, Stt K B S H σ sl → ∀ Q : List V → Hp → Prop, (∀ vs S' H', Stt K B S' H' σ sl' → Adv σ sl S H sl' S' H' p → KdsOk K B σ sl' S' H' vs ks → Q vs H') → t σ H Q
def AV (c : CxD) (B : Bs) (es : List Expr) (sl : List Sl) (p : Bool) (ks : List Kd) (sl' : List Sl) : Prop :=
  ∃ t, (∀ X, InCx c X → PA X es t) ∧ SemA c.K B t sl p ks sl'
end
end Mw

/-! MwB: the first rules: names, constants, operators, displays, subscripts. -/
namespace Mw
open PySem PySem.Spec L2
variable [Tb]

def Nx (K : PySem.W.Frag) (B : Bs) (σ : St) (sl : List Sl) (S H : Hp) (k : Kd) (Q : VK) : Prop :=
  ∀ v S' H', Stt K B S' H' σ sl → Adv σ sl S H sl S' H' true → KdOk K B σ sl S' H' v k → Frs H v k → Q v H'
section
variable {K : PySem.W.Frag} {B : Bs} {S S' H H' : Hp} {σ : St} {sl sl' : List Sl} {Q : VK} {v : V} {k : Kd} {l : Addr} {b p : Bool}
theorem Frs.back (h : Frs H' v k) (a : Adv σ sl S H sl' S' H' p) : Frs H v k := by
  cases k with
  | fr o =>
    intro l e
    cases e2 : H l with
    | none => rfl
    | some u =>
      obtain ⟨u', e3⟩ := a.d l u e2
      have := h l e
      rw [e3] at this
      cases this
  | _ => trivial
theorem Nx.here (q : Nx K B σ sl S H k Q) (I : Stt K B S H σ sl) (h : KdOk K B σ sl S H v k) (hf : Frs H v k) : Q v H := q v S H I .refl h hf
theorem Nx.st {d : PyData} (q : Nx K B σ sl S H (.st d) Q) (I : Stt K B S H σ sl) (h : Tr K S v d) : Q v H := q v S H I .refl h trivial
theorem Stt.laid2 {o : HO} (I : Stt K B S H σ sl) (hn : H l = none) (ho : ∀ ps, o ≠ .tbl ps := by intro _ z; cases z) : Stt K B (upd S l o) (upd H l o) σ sl ∧ Adv σ sl S H sl (upd S l o) (upd H l o) true := by
  have hS := (I.notIn hn).1
  have nn : ∀ (a : Addr) (u : HO), upd S l o a = some u → S a = none → H a = none := fun a u h1 h2 => by
    by_cases e : a = l
    · rw [e]; exact hn
    · rw [upd_ne e, h2] at h1
      cases h1
  have s1 : Same S (upd S l o) := same_new hS
  have s2 : Same H (upd H l o) := same_new hn
  refine ⟨I.grow s1 s2 (fun a u e => ?_) nn (noT_upd I.snt ho), s1, nn, fun a u e => ⟨u, s2 _ _ e⟩, fun a u e _ _ => s2 _ _ e, fun _ => same_sam s2, fun _ h => h⟩
  by_cases e1 : a = l
  · rw [e1, upd_same] at e ⊢
    exact e
  · rw [upd_ne e1] at e ⊢
    exact I.sh _ _ e
theorem Nx.fresh {xs : List V} {ds : List PyData} (q : Nx K B σ sl S H (.fr (.lst ds)) Q) (I : Stt K B S H σ sl) (hn : H l = none) (t : Trs K S xs ds) : Q (.ref l) (upd H l (.lst xs)) := by
  obtain ⟨h1, h2, h3⟩ := I.notIn hn
  exact q _ S _ (I.laid hn) (.same (same_new hn)) ⟨l, rfl, h1, h2, ⟨xs, upd_same, t⟩, h3⟩ (fun l' e => by cases e; exact hn)
theorem Nx.ntup {xs : List V} {ds : List PyData} (q : Nx K B σ sl S H (.st (.tuple ds)) Q) (I : Stt K B S H σ sl) (hn : H l = none) (t : Trs K S xs ds) : Q (.ref l) (upd H l (.tup xs)) := by
  obtain ⟨I', a⟩ := I.laid2 (o := .tup xs) hn
  exact q _ _ _ I' a (.tup (.inl (.inl upd_same)) (t.mono a.s)) trivial
theorem Nx.pre (q : Nx K B σ sl S H k Q) (a : Adv σ sl S H sl S' H' true) : Nx K B σ sl S' H' k Q := fun v S2 H2 I2 a2 h hf => q v S2 H2 I2 (a.trans a2) h (hf.back a)
/-- what may be read as a list now -/
def RdL (K : PySem.W.Frag) (S H : Hp) (v : V) (ds : List PyData) : Prop := ∃ a xs, v = .ref a ∧ SqL K H a xs ∧ Trs K S xs ds
end
inductive LsK : Kd → List PyData → Prop
  | st {ds : List PyData} : LsK (.st (.list ds)) ds
  | ls {ds : List PyData} : LsK (.ls ds) ds
  | fr {ds : List PyData} : LsK (.fr (.lst ds)) ds
theorem LsK.rd {K : PySem.W.Frag} {B : Bs} {S H : Hp} {σ : St} {sl : List Sl} {k : Kd} {ds : List PyData} {v : V} (h : LsK k ds) (I : Stt K B S H σ sl) (x : KdOk K B σ sl S H v k) : RdL K S H v ds := by
  cases h with
  | st =>
    obtain ⟨a, xs, e, h1, t⟩ := tr_lst x
    exact ⟨a, xs, e, I.sh.seq h1, t⟩
  | ls => exact x
  | fr =>
    obtain ⟨l, e, _, _, ⟨xs, h1, t⟩, _⟩ := x
    exact ⟨l, xs, e, .inl (.inl h1), t⟩

/-! ## values by rules -/
/-- one value in, one out -/
def US (K : PySem.W.Frag) (r : V → Hp → VK → Prop) (k1 k : Kd) : Prop := ∀ B σ sl S H x, Stt K B S H σ sl → KdOk K B σ sl S H x k1 → ∀ Q, Nx K B σ sl S H k Q → r x H Q
def OS (K : PySem.W.Frag) (r : R2) (k1 k2 k : Kd) : Prop := ∀ B σ sl S H x y, Stt K B S H σ sl → KdOk K B σ sl S H x k1 → KdOk K B σ sl S H y k2 → ∀ Q, Nx K B σ sl S H k Q → r x y H Q
def CS (K : PySem.W.Frag) (r : List V → Hp → VK → Prop) (ks : List Kd) (k : Kd) : Prop := ∀ B σ sl S H vs, Stt K B S H σ sl → KdsOk K B σ sl S H vs ks → ∀ Q, Nx K B σ sl S H k Q → r vs H Q

section
variable {c : CxD} {B : Bs} {e a b : Expr} {es : List Expr} {sl sl1 sl2 sl3 : List Sl} {p q r : Bool} {k k1 k2 : Kd} {ks : List Kd} {pos p1 : Pos} {d : PyData} {ds : List PyData} {t : Bool}
theorem fin {K : PySem.W.Frag} {S0 H0 S H : Hp} {σ : St} {sl0 : List Sl} {p' : Bool} {Q : VK} (h : ∀ v S' H', Stt K B S' H' σ sl → Adv σ sl0 S0 H0 sl S' H' p → KdOk K B σ sl S' H' v k → Frs H0 v k → Q v H') (a : Adv σ sl0 S0 H0 sl S H p') (hp : p = true → p' = true) : Nx K B σ sl S H k Q :=
  fun v S' H' I' a' x f => h v S' H' I' ((a.trans a').weak fun e => by rw [hp e]; rfl) x (f.back a)

/-! ### names and constants -/
theorem InCx.vis {X : Cx} (h : InCx c X) {x : Str} (hv : c.sc.names.lookup x = some .local ∨ c.sc.names.lookup x = some .cell ∨ c.sc.names.lookup x = some .free) : Vis X.env.scope x := h.v x hv
theorem ev_val (i : Nat) {x : Str} (hd : sl[i]? = some (.val d) := by rfl) (hN : c.N[i]? = some x := by rfl) (hv : Vis c.sc x := by first | exact .inl rfl | exact .inr (.inl rfl) | exact .inr (.inr rfl))
    (h1 : (x == ("__debug__" : Str)) = false := by decide) (h2 : (x == ("__classdict__" : Str)) = false := by decide) : EV c B (.Name x pos) sl true (.st d) sl :=
  ⟨tVar i, fun X hX => pe_var (by rw [hX.hN]; exact hN) (hX.v x hv) h1 h2, fun S H σ I Q q => by
    obtain ⟨v, e, t⟩ := I.val hd
    exact ⟨v, e, q v S H I .refl t trivial⟩⟩
theorem ev_raw (i : Nat) {x : Str} {v : V} (hd : sl[i]? = some (.raw v) := by rfl) (hN : c.N[i]? = some x := by rfl) (hv : Vis c.sc x := by first | exact .inl rfl | exact .inr (.inl rfl) | exact .inr (.inr rfl))
    (h1 : (x == ("__debug__" : Str)) = false := by decide) (h2 : (x == ("__classdict__" : Str)) = false := by decide) : EV c B (.Name x pos) sl true (.raw v) sl :=
  ⟨tVar i, fun X hX => pe_var (by rw [hX.hN]; exact hN) (hX.v x hv) h1 h2, fun S H σ I Q q => ⟨v, I.raw hd, q v S H I .refl rfl trivial⟩⟩
/-- a list that changes, read as it is now -/
theorem ev_own (i : Nat) {x : Str} {s : Sl} (hd : sl[i]? = some s := by rfl) (ho : s.ow = some (.lst ds) := by rfl) (hN : c.N[i]? = some x := by rfl) (hv : Vis c.sc x := by first | exact .inl rfl | exact .inr (.inl rfl) | exact .inr (.inr rfl))
    (h1 : (x == ("__debug__" : Str)) = false := by decide) (h2 : (x == ("__classdict__" : Str)) = false := by decide) : EV c B (.Name x pos) sl true (.ls ds) sl :=
  ⟨tVar i, fun X hX => pe_var (by rw [hX.hN]; exact hN) (hX.v x hv) h1 h2, fun S H σ I Q q => by
    obtain ⟨l, e, n, xs, h3, t⟩ := I.own hd ho
    exact ⟨_, e, q _ S H I .refl ⟨l, xs, rfl, .inl (.inl h3), t⟩ trivial⟩⟩
theorem ev_int {i : Int} {j : Nat} : EV c B (.Constant (.int i) j pos) sl true (.st (.int i)) sl := ⟨_, fun _ _ => pe_int, fun S H σ I Q q => q _ S H I .refl (.int i) trivial⟩
theorem ev_bl {i : Bool} {j : Nat} : EV c B (.Constant (.bool i) j pos) sl true (.st (.bool i)) sl := ⟨_, fun _ _ => pe_bl, fun S H σ I Q q => q _ S H I .refl (.bl i) trivial⟩
theorem ev_non {j : Nat} : EV c B (.Constant .none j pos) sl true (.st .none) sl := ⟨_, fun _ _ => pe_non, fun S H σ I Q q => q _ S H I .refl .non trivial⟩
theorem ev_str {i : Str} {j : Nat} : EV c B (.Constant (.str i) j pos) sl true (.st (.str i)) sl := ⟨_, fun _ _ => pe_str, fun S H σ I Q q => q _ S H I .refl (.str i) trivial⟩
theorem InCx.gl {X : Cx} (h : InCx c X) {x : Str} (hv : c.sc.names.lookup x = some .globalImplicit) : Gl X x := h.g x hv
/-- a constant of the module, a whole number -/
theorem ev_gint {x : Str} {i : Int} (hm : ∃ t, c.mg x = some (.int i t)) (hg : c.sc.names.lookup x = some .globalImplicit := by rfl) (h1 : (x == ("__debug__" : Str)) = false := by decide) : EV c B (.Name x pos) sl true (.st (.int i)) sl := by
  obtain ⟨t, hm⟩ := hm
  exact ⟨_, fun X hX => pe_glob (v := .int i) (hX.g x hg) (by rw [hX.hm]; exact hm) ⟨t, rfl⟩ h1, fun S H σ I Q q => q _ S H I .refl (.int i) trivial⟩
theorem ev_gref {x : Str} {f : Addr} (hm : c.mg x = some (.ref f)) (hg : c.sc.names.lookup x = some .globalImplicit := by rfl) (h1 : (x == ("__debug__" : Str)) = false := by decide) : EV c B (.Name x pos) sl true (.raw (.ref f)) sl :=
  ⟨_, fun X hX => pe_glob (v := .ref f) (hX.g x hg) (by rw [hX.hm]; exact hm) rfl h1, fun S H σ I Q q => q _ S H I .refl rfl trivial⟩
theorem ev_gty {x : Str} {n : String} (hm : c.mg x = none) (hv : bootBuiltins x = some (.type n)) (hg : c.sc.names.lookup x = some .globalImplicit := by rfl) (hn : x ≠ "__name__" := by decide) (h1 : (x == ("__debug__" : Str)) = false := by decide) :
    EV c B (.Name x pos) sl true (.raw (.ty n)) sl :=
  ⟨_, fun X hX => pe_bltn (v := .ty n) (hX.g x hg) (by rw [hX.hm]; exact hm) hv rfl hn h1, fun S H σ I Q q => q _ S H I .refl rfl trivial⟩

/-! ### changing what is said -/
theorem EV.to (h : EV c B e sl p k sl1) {k' : Kd} (hk : k = k') : EV c B e sl p k' sl1 := hk ▸ h
theorem EV.im (h : EV c B e sl p k sl1) (hp : q = true → p = true := by intro h; first | rfl | cases h) : EV c B e sl q k sl1 := by
  obtain ⟨t, ht, hs⟩ := h
  exact ⟨t, ht, fun S H σ I Q q => hs S H σ I Q fun v S' H' I' a x f => q v S' H' I' (a.weak hp) x f⟩
/-- a new list that will not change any more -/
theorem EV.fz (h : EV c B e sl p (.fr (.lst ds)) sl1) : EV c B e sl p (.st (.list ds)) sl1 := by
  obtain ⟨t, ht, hs⟩ := h
  refine ⟨t, ht, fun S H σ I Q q => hs S H σ I Q fun v S' H' I' a x f => ?_⟩
  obtain ⟨l, rfl, n, n0, ⟨xs, e, tr⟩, na⟩ := x
  have nH : H l = none := f l rfl
  have s1 : Same S' (upd S' l (.lst xs)) := same_new n
  have sH : Same (upd S' l (.lst xs)) H' := fun b u e1 => by
    by_cases eb : b = l
    · rw [eb, upd_same] at e1
      rw [eb, e]
      exact e1
    · rw [upd_ne eb] at e1
      exact I'.sh _ _ e1
  have nw : ∀ (b : Addr) (u : HO), upd S' l (.lst xs) b = some u → S b = none → H b = none := fun b u e1 e2 => by
    by_cases eb : b = l
    · rw [eb]; exact nH
    · rw [upd_ne eb] at e1
      exact a.n b u e1 e2
  refine q _ (upd S' l (.lst xs)) H' ⟨I'.s0.trans s1, sH, fun b u e1 e2 => ?_, I'.keep, I'.dom, I'.lsd, I'.len, fun i s' es => ?_, I'.dis, I'.tabs, I'.tbk, noT_upd I'.snt (fun _ z => nomatch z), I'.sm⟩ ⟨a.s.trans s1, nw, a.d, a.k, a.h, a.w⟩ (.lst (.inl (.inl upd_same)) (tr.mono s1)) trivial
  · by_cases eb : b = l
    · rw [eb]; exact n0
    · rw [upd_ne eb] at e1
      exact I'.new b u e1 e2
  · obtain ⟨x, hx, ok⟩ := I'.slot i s' es
    refine ⟨x, hx, ok.ext s1 (fun _ _ => rfl) fun b m => ?_⟩
    rw [upd_ne fun z => na ⟨i, s', x, es, hx, by rw [← z]; exact m⟩]
    exact (ok.fp m).1

/-! ### operators -/
theorem ev_bin {op : Operator} {r : R2} (ho : ∀ X, InCx c X → OpR X (binaryOp op) r) (hs : OS c.K r k1 k2 k) (ha : EV c B a sl p k1 sl1) (hb : EV c B b sl1 q k2 sl2) (hk : (q || k1.firm) = true := by rfl) :
    EV c B (.BinOp a op b pos) sl (p && q) k sl2 := by
  obtain ⟨ta, ha, sa⟩ := ha
  obtain ⟨tb, hb, sb⟩ := hb
  refine ⟨tOp r ta tb, fun X hX => pe_op (ho X hX) (ha X hX) (hb X hX), fun S H σ I Q fn => ?_⟩
  refine sa S H σ I _ fun x S1 H1 I1 a1 x1 f1 => sb S1 H1 σ I1 _ fun y S2 H2 I2 a2 x2 f2 => ?_
  exact hs B σ sl2 S2 H2 x y I2 (x1.adv a2 hk) x2 Q (Mw.fin fn (a1.trans a2) fun h => h)
/-- a comparison: as a value and as a test -/
def CM (c : CxD) (B : Bs) (op : CmpOp) (a b : Expr) (sl : List Sl) (p t : Bool) (sl' : List Sl) : Prop :=
  ∃ te, (∀ X pos, InCx c X → PE X (.Compare a [op] [b] pos) te ∧ PT X (.Compare a [op] [b] pos) (tB te)) ∧ SemE c.K B te sl p (.st (.bool t)) sl'
theorem CM.ev {op : CmpOp} (h : CM c B op a b sl p t sl1) : EV c B (.Compare a [op] [b] pos) sl p (.st (.bool t)) sl1 := by
  obtain ⟨te, h, hs⟩ := h
  exact ⟨te, fun X hX => (h X pos hX).1, hs⟩
theorem CM.tv {op : CmpOp} (h : CM c B op a b sl p t sl1) : TV c B (.Compare a [op] [b] pos) sl p t sl1 := by
  obtain ⟨te, h, hs⟩ := h
  exact ⟨tB te, fun X hX => (h X pos hX).2, fun S H σ I Q q => hs S H σ I _ fun v S1 H1 I1 a1 x1 _ => ⟨t, tr_bl x1, q S1 H1 I1 a1⟩⟩
theorem CM.to {op : CmpOp} {u : Bool} (h : CM c B op a b sl p t sl1) (e : t = u) : CM c B op a b sl p u sl1 := e ▸ h
theorem cm_of {op : CmpOp} {r : R2} (ho : ∀ X, InCx c X → OpR X (compareOp op) r) (hm : behindInMarks op b = false) (hs : OS c.K r k1 k2 (.st (.bool t))) (ha : EV c B a sl p k1 sl1) (hb : EV c B b sl1 q k2 sl2) (hk : (q || k1.firm) = true := by rfl) :
    CM c B op a b sl (p && q) t sl2 := by
  obtain ⟨ta, ha, sa⟩ := ha
  obtain ⟨tb, hb, sb⟩ := hb
  refine ⟨tOp r ta tb, fun X pos hX => ⟨pe_cmpR (ho X hX) (ha X hX) (hb X hX) hm, pt_cmpR (ho X hX) (ha X hX) (hb X hX) hm⟩, fun S H σ I Q fn => ?_⟩
  refine sa S H σ I _ fun x S1 H1 I1 a1 x1 f1 => sb S1 H1 σ I1 _ fun y S2 H2 I2 a2 x2 f2 => ?_
  exact hs B σ sl2 S2 H2 x y I2 (x1.adv a2 hk) x2 Q (Mw.fin fn (a1.trans a2) fun h => h)
theorem ev_un {op : UnaryOp} {r : V → Hp → VK → Prop} (ho : ∀ X, InCx c X → UnR X (unaryOp op) r) (hs : US c.K r k1 k) (ha : EV c B a sl p k1 sl1) : EV c B (.UnaryOp op a pos) sl p k sl1 := by
  obtain ⟨ta, ha, sa⟩ := ha
  refine ⟨tUn r ta, fun X hX => pe_un (ho X hX) (ha X hX), fun S H σ I Q fn => ?_⟩
  exact sa S H σ I _ fun x S1 H1 I1 a1 x1 f1 => hs B σ sl1 S1 H1 x I1 x1 Q (Mw.fin fn a1 fun h => h)
end
/-- two numbers in, a flat thing out -/
theorem os_II {K : PySem.W.Frag} {C : Int → Int → Prop} {g : Int → Int → V} {i j : Int} {d : PyData} (hc : C i j) (hd : ∀ S, Tr K S (g i j) d) : OS K (rI C g) (.st (.int i)) (.st (.int j)) (.st d) :=
  fun B σ sl S H x y I hx hy Q q => ⟨i, j, tr_int hx, tr_int hy, hc, q.st I (hd S)⟩
theorem os_I0 {K : PySem.W.Frag} {g : Int → Int → V} {i j : Int} {d : PyData} (hd : ∀ S, Tr K S (g i j) d) : OS K (rI0 g) (.st (.int i)) (.st (.int j)) (.st d) :=
  fun B σ sl S H x y I hx hy Q q => ⟨i, j, tr_int hx, tr_int hy, q.st I (hd S)⟩
theorem tr_flat {K : PySem.W.Frag} {S : Hp} {v : V} {d : PyData} (h : Tr K S v d) (f : flatD d = true) : v = toV d := by
  cases h <;> first | rfl | cases f
section
variable {c : CxD} {B : Bs} {e a b : Expr} {es : List Expr} {sl sl1 sl2 sl3 : List Sl} {p q r : Bool} {k k1 k2 : Kd} {ks : List Kd} {pos p1 : Pos} {d : PyData} {ds es' : List PyData} {i j : Int}
theorem ev_add (ha : EV c B a sl p (.st (.int i)) sl1) (hb : EV c B b sl1 q (.st (.int j)) sl2) : EV c B (.BinOp a .Add b pos) sl (p && q) (.st (.int (i + j))) sl2 :=
  ev_bin (fun _ _ => op_add) (os_I0 fun S => .int _) ha hb (by simp [Kd.firm])
theorem ev_sub (ha : EV c B a sl p (.st (.int i)) sl1) (hb : EV c B b sl1 q (.st (.int j)) sl2) : EV c B (.BinOp a .Sub b pos) sl (p && q) (.st (.int (i - j))) sl2 :=
  ev_bin (fun _ _ => op_sub) (os_I0 fun S => .int _) ha hb (by simp [Kd.firm])
theorem ev_mul (ha : EV c B a sl p (.st (.int i)) sl1) (hb : EV c B b sl1 q (.st (.int j)) sl2) (hc : CMulW i j) : EV c B (.BinOp a .Mult b pos) sl (p && q) (.st (.int (i * j))) sl2 :=
  ev_bin (fun _ _ => op_mulW) (os_II hc fun S => .int _) ha hb (by simp [Kd.firm])
theorem ev_mod (ha : EV c B a sl p (.st (.int i)) sl1) (hb : EV c B b sl1 q (.st (.int j)) sl2) (hc : 0 < j) : EV c B (.BinOp a .Mod b pos) sl (p && q) (.st (.int (i % j))) sl2 :=
  ev_bin (fun _ _ => op_mod) (os_II hc fun S => .int _) ha hb (by simp [Kd.firm])
theorem ev_div (ha : EV c B a sl p (.st (.int i)) sl1) (hb : EV c B b sl1 q (.st (.int j)) sl2) (hc : 0 < j ∧ j < 1073741824) : EV c B (.BinOp a .FloorDiv b pos) sl (p && q) (.st (.int (i / j))) sl2 :=
  ev_bin (fun _ _ => op_fdiv) (os_II hc fun S => .int _) ha hb (by simp [Kd.firm])
def CPowW (i j : Int) : Prop := 0 ≤ j ∧ (Builtin.Int.intBits i : Int) * j ≤ 2 ^ 27
theorem op_powW {X : Cx} : OpR X (binaryOp .Pow) (rI CPowW fun i j => .int (i ^ j.toNat)) := opI fun _ _ _ _ _ _ _ hc q => PyProof.Rows.pow_int hc.1 hc.2 q
theorem ev_pow (ha : EV c B a sl p (.st (.int i)) sl1) (hb : EV c B b sl1 q (.st (.int j)) sl2) (hc : CPowW i j) : EV c B (.BinOp a .Pow b pos) sl (p && q) (.st (.int (i ^ j.toNat))) sl2 :=
  ev_bin (fun _ _ => op_powW) (os_II hc fun S => .int _) ha hb (by simp [Kd.firm])
theorem ev_neg (ha : EV c B a sl p (.st (.int i)) sl1) : EV c B (.UnaryOp .USub a pos) sl p (.st (.int (-i))) sl1 :=
  ev_un (k1 := .st (.int i)) (r := rU fun i => .int (-i)) (fun _ _ => un_neg) (fun B σ sl S H x I hx Q q => ⟨i, tr_int hx, q.st I (.int _)⟩) ha
theorem cm_lt (ha : EV c B a sl p (.st (.int i)) sl1) (hb : EV c B b sl1 q (.st (.int j)) sl2) : CM c B .Lt a b sl (p && q) (decide (i < j)) sl2 :=
  cm_of (fun _ _ => op_lt) (nobehind _ (by decide) (by decide)) (os_I0 fun S => .bl _) ha hb (by simp [Kd.firm])
theorem cm_le (ha : EV c B a sl p (.st (.int i)) sl1) (hb : EV c B b sl1 q (.st (.int j)) sl2) : CM c B .LtE a b sl (p && q) (decide (i ≤ j)) sl2 :=
  cm_of (fun _ _ => op_le) (nobehind _ (by decide) (by decide)) (os_I0 fun S => .bl _) ha hb (by simp [Kd.firm])
theorem cm_gt (ha : EV c B a sl p (.st (.int i)) sl1) (hb : EV c B b sl1 q (.st (.int j)) sl2) : CM c B .Gt a b sl (p && q) (decide (j < i)) sl2 :=
  cm_of (fun _ _ => op_gt) (nobehind _ (by decide) (by decide)) (os_I0 fun S => .bl _) ha hb (by simp [Kd.firm])
theorem cm_ge (ha : EV c B a sl p (.st (.int i)) sl1) (hb : EV c B b sl1 q (.st (.int j)) sl2) : CM c B .GtE a b sl (p && q) (decide (j ≤ i)) sl2 :=
  cm_of (fun _ _ => op_ge) (nobehind _ (by decide) (by decide)) (os_I0 fun S => .bl _) ha hb (by simp [Kd.firm])
theorem cm_eqI (ha : EV c B a sl p (.st (.int i)) sl1) (hb : EV c B b sl1 q (.st (.int j)) sl2) : CM c B .Eq a b sl (p && q) (decide (i = j)) sl2 :=
  cm_of (r := rEq) (fun _ _ => op_eq) (nobehind _ (by decide) (by decide)) (fun B σ sl S H x y I hx hy Q q => by
    cases tr_int hx
    cases tr_int hy
    refine ⟨rfl, q.st I ?_⟩
    have e : decide (V.int i = V.int j) = decide (i = j) := by
      by_cases h : i = j
      · rw [h]; simp
      · rw [decide_eq_false h, decide_eq_false fun z => h (V.int.inj z)]
    rw [e]
    exact .bl _) ha hb (by simp [Kd.firm])
theorem cm_neI (ha : EV c B a sl p (.st (.int i)) sl1) (hb : EV c B b sl1 q (.st (.int j)) sl2) : CM c B .NotEq a b sl (p && q) (!decide (i = j)) sl2 :=
  cm_of (r := rNe) (fun _ _ => op_ne) (nobehind _ (by decide) (by decide)) (fun B σ sl S H x y I hx hy Q q => by
    cases tr_int hx
    cases tr_int hy
    refine ⟨rfl, q.st I ?_⟩
    have e : decide (V.int i = V.int j) = decide (i = j) := by
      by_cases h : i = j
      · rw [h]; simp
      · rw [decide_eq_false h, decide_eq_false fun z => h (V.int.inj z)]
    rw [e]
    exact .bl _) ha hb (by simp [Kd.firm])
/-- two texts -/
theorem cm_eqS {x y : Str} (ha : EV c B a sl p (.st (.str x)) sl1) (hb : EV c B b sl1 q (.st (.str y)) sl2) : CM c B .Eq a b sl (p && q) (decide (x = y)) sl2 :=
  cm_of (r := rEq) (fun _ _ => op_eq) (nobehind _ (by decide) (by decide)) (fun B σ sl S H u w I hx hy Q q => by
    cases tr_str hx
    cases tr_str hy
    refine ⟨rfl, q.st I ?_⟩
    have e : decide (V.str x = V.str y) = decide (x = y) := by
      by_cases h : x = y
      · rw [h]; simp
      · rw [decide_eq_false h, decide_eq_false fun z => h (V.str.inj z)]
    rw [e]
    exact .bl _) ha hb (by simp [Kd.firm])
theorem cm_neS {x y : Str} (ha : EV c B a sl p (.st (.str x)) sl1) (hb : EV c B b sl1 q (.st (.str y)) sl2) : CM c B .NotEq a b sl (p && q) (!decide (x = y)) sl2 :=
  cm_of (r := rNe) (fun _ _ => op_ne) (nobehind _ (by decide) (by decide)) (fun B σ sl S H u w I hx hy Q q => by
    cases tr_str hx
    cases tr_str hy
    refine ⟨rfl, q.st I ?_⟩
    have e : decide (V.str x = V.str y) = decide (x = y) := by
      by_cases h : x = y
      · rw [h]; simp
      · rw [decide_eq_false h, decide_eq_false fun z => h (V.str.inj z)]
    rw [e]
    exact .bl _) ha hb (by simp [Kd.firm])
/-- is None -/
def isNonD : PyData → Bool
  | .none => true
  | _ => false
theorem tr_isN {K : PySem.W.Frag} {S : Hp} {v : V} (h : Tr K S v d) : decide (v = .non) = isNonD d := by
  cases h <;> first | rfl | exact decide_eq_false (by intro z; cases z)
theorem cm_isN {j : Nat} (ha : EV c B a sl p (.st d) sl1) : CM c B .Is a (.Constant .none j p1) sl p (isNonD d) sl1 := by
  obtain ⟨ta, ha, sa⟩ := ha
  refine ⟨tIsN ta, fun X pos hX => ⟨pe_cmp (pc_isN (ha X hX)) rfl, pt_cmp (pc_isN (ha X hX)) rfl⟩, fun S H σ I Q fn => ?_⟩
  refine sa S H σ I _ fun x S1 H1 I1 a1 x1 f1 => ?_
  rw [tr_isN x1]
  exact fn _ S1 H1 I1 a1 (.bl _) trivial
theorem cm_notN {j : Nat} (ha : EV c B a sl p (.st d) sl1) : CM c B .IsNot a (.Constant .none j p1) sl p (!isNonD d) sl1 := by
  obtain ⟨ta, ha, sa⟩ := ha
  refine ⟨tNotN ta, fun X pos hX => ⟨pe_cmp (pc_notN (ha X hX)) rfl, pt_cmp (pc_notN (ha X hX)) rfl⟩, fun S H σ I Q fn => ?_⟩
  refine sa S H σ I _ fun x S1 H1 I1 a1 x1 f1 => ?_
  rw [tr_isN x1]
  exact fn _ S1 H1 I1 a1 (.bl _) trivial

/-! ### argument lists and displays -/
theorem av_nil : AV c B [] sl true [] sl := ⟨tNil, fun _ _ => pa_nil, fun S H σ I Q q => q [] S H I .refl .nil⟩
theorem av_cons (ha : EV c B e sl p k sl1) (hr : AV c B es sl1 q ks sl2) (hk : (q || k.firm) = true := by rfl) (hs : ∀ env, starEach (e :: es) env = (false, eval e env) :: starEach es env := by intro env; rfl) : AV c B (e :: es) sl (p && q) (k :: ks) sl2 := by
  obtain ⟨ta, ha, sa⟩ := ha
  obtain ⟨tb, hb, sb⟩ := hr
  refine ⟨tCons ta tb, fun X hX => pa_cons (ha X hX) (hb X hX) (hs _), fun S H σ I Q fn => ?_⟩
  refine sa S H σ I _ fun x S1 H1 I1 a1 x1 f1 => sb S1 H1 σ I1 _ fun vs S2 H2 I2 a2 x2 => ?_
  exact fn _ S2 H2 I2 (a1.trans a2) (.cons (x1.adv a2 hk) x2)
/-- all stay -/
inductive Sts : List Kd → List PyData → Prop
  | nil : Sts [] []
  | cons {d : PyData} {ks : List Kd} {ds : List PyData} (t : Sts ks ds) : Sts (.st d :: ks) (d :: ds)
theorem Sts.trs {K : PySem.W.Frag} {S H : Hp} {σ : St} : ∀ {ks : List Kd} {ds : List PyData} {vs : List V}, Sts ks ds → KdsOk K B σ sl S H vs ks → Trs K S vs ds
  | _, _, _, .nil, .nil => .nil
  | _, _, _, .cons t, .cons h t2 => .cons h (Sts.trs t t2)
theorem ev_lst (ha : AV c B es sl p ks sl1) (hs : Sts ks ds) (hl : ds.length ≤ 1000000 := by exact Nat.le_of_ble_eq_true rfl) : EV c B (.List es pos) sl p (.fr (.lst ds)) sl1 := by
  obtain ⟨ta, ha, sa⟩ := ha
  refine ⟨tLst ta, fun X hX => pe_lst (ha X hX), fun S H σ I Q fn => ?_⟩
  refine sa S H σ I _ fun vs S1 H1 I1 a1 x1 => ?_
  have t := hs.trs x1
  refine ⟨by rw [t.len]; exact Nat.le_trans hl (by decide), fun l hn => ?_⟩
  exact (Mw.fin fn a1 fun h => h).fresh I1 hn t
theorem ev_tup {x1 : Nat} (ha : AV c B es sl p ks sl1) (hs : Sts ks ds) (hl : ds.length ≤ 1000000 := by exact Nat.le_of_ble_eq_true rfl) : EV c B (.Tuple es x1 pos) sl p (.st (.tuple ds)) sl1 := by
  obtain ⟨ta, ha, sa⟩ := ha
  refine ⟨tTup ta, fun X hX => pe_tup (ha X hX), fun S H σ I Q fn => ?_⟩
  refine sa S H σ I _ fun vs S1 H1 I1 a1 x1 => ?_
  have t := hs.trs x1
  refine ⟨by rw [t.len]; exact Nat.le_trans hl (by decide), fun l hn => ?_⟩
  exact (Mw.fin fn a1 fun h => h).ntup I1 hn t

/-! ### subscripts -/
theorem ev_ix {i : Int} (ha : EV c B a sl p k1 sl1) (hb : EV c B b sl1 q (.st (.int i)) sl2) (hl : LsK k1 ds := by first | exact .st | exact .ls | exact .fr) (hd : atI ds i = some d) (hs : PlainIx b := by exact fun _ _ => rfl) (hk : (q || k1.firm) = true := by first | rfl | (simp [Kd.firm])) : EV c B (.Subscript a b pos) sl (p && q) (.st d) sl2 := by
  obtain ⟨ta, ha, sa⟩ := ha
  obtain ⟨tb, hb, sb⟩ := hb
  refine ⟨tOp (rIxL c.K) ta tb, fun X hX => pe_ix (by rw [← hX.hK]; exact ix_list) (ha X hX) (hb X hX) hs, fun S H σ I Q fn => ?_⟩
  refine sa S H σ I _ fun x S1 H1 I1 a1 x1 f1 => sb S1 H1 σ I1 _ fun y S2 H2 I2 a2 x2 f2 => ?_
  obtain ⟨l, xs, rfl, hq, t⟩ := hl.rd I2 (x1.adv a2 hk)
  have hi := hd
  unfold atI at hi
  obtain ⟨j, hj, hj2⟩ := Option.bind_eq_some_iff.mp hi
  obtain ⟨v, hv, tv⟩ := t.get hj2
  refine ⟨l, xs, i, v, rfl, tr_int x2, hq, ?_, fn v S2 H2 I2 (a1.trans a2) tv trivial⟩
  unfold atI
  rw [t.len, hj]
  exact hv
theorem ev_ixT {i : Int} (ha : EV c B a sl p (.st (.tuple ds)) sl1) (hb : EV c B b sl1 q (.st (.int i)) sl2) (hd : atI ds i = some d) (hs : PlainIx b := by exact fun _ _ => rfl) : EV c B (.Subscript a b pos) sl (p && q) (.st d) sl2 := by
  obtain ⟨ta, ha, sa⟩ := ha
  obtain ⟨tb, hb, sb⟩ := hb
  refine ⟨tOp (rIxT c.K) ta tb, fun X hX => pe_ix (by rw [← hX.hK]; exact ix_tup) (ha X hX) (hb X hX) hs, fun S H σ I Q fn => ?_⟩
  refine sa S H σ I _ fun x S1 H1 I1 a1 x1 f1 => sb S1 H1 σ I1 _ fun y S2 H2 I2 a2 x2 f2 => ?_
  obtain ⟨l, xs, rfl, hq, t⟩ := tr_tup (x1.adv a2 (by simp [Kd.firm]))
  have hi := hd
  unfold atI at hi
  obtain ⟨j, hj, hj2⟩ := Option.bind_eq_some_iff.mp hi
  obtain ⟨v, hv, tv⟩ := t.get hj2
  refine ⟨l, xs, i, v, rfl, tr_int x2, Sam.sqt (same_sam I2.sh) hq, ?_, fn v S2 H2 I2 (a1.trans a2) tv trivial⟩
  unfold atI
  rw [t.len, hj]
  exact hv
end
end Mw

/-! MwC: calls of built-ins, repr, ==, in, slices, list operators. -/
namespace Mw
open PySem PySem.Spec L2
variable [Tb]

section
variable {X : Cx} {pins : List (Addr × Obj)} {σ : L2.St} {H : Hp} {s : Shared}
mutual
theorem Tr.reads (I : Inv X pins σ H s) : ∀ {d : PyData} {v : V} {u : Value}, Tr X.K H v d → d.hasDict = false → RelV v u → ∃ as, Reads s.heap u d as
  | .none, _, _, h, _, r => by cases h; cases r; exact ⟨_, .none⟩
  | .bool b, _, _, h, _, r => by cases h; cases r; exact ⟨_, .bool b⟩
  | .int i, _, _, h, _, r => by cases h; obtain ⟨t, rfl⟩ := r; exact ⟨_, .int i t⟩
  | .str x, _, _, h, _, r => by cases h; obtain ⟨t, rfl⟩ := r; exact ⟨_, .str x t⟩
  | .list ds, _, _, h, hd, r => by
    cases h with
    | lst hs ha =>
      cases r
      obtain ⟨its, rv, ⟨o, n, ho, hc, _, hdt⟩, _⟩ := I.list hs
      obtain ⟨as, hr⟩ := Trs.reads I ha (by simpa [PyData.hasDict] using hd) rv
      exact ⟨_, .list ho hc hdt hr⟩
  | .tuple ds, _, _, h, hd, r => by
    cases h with
    | tup hs ha =>
      cases r
      obtain ⟨its, rv, ⟨o, ho, hc, n, hdt⟩, _⟩ := I.tuple hs
      obtain ⟨as, hr⟩ := Trs.reads I ha (by simpa [PyData.hasDict] using hd) rv
      exact ⟨_, .tuple ho hc hdt hr⟩
  | .dict _, _, _, _, hd, _ => by simp [PyData.hasDict] at hd
theorem Trs.reads (I : Inv X pins σ H s) : ∀ {ds : List PyData} {vs : List V} {us : List Value}, Trs X.K H vs ds → PyData.hasDictAll ds = false → Vals vs us → ∃ as, ReadsAll s.heap us ds as
  | [], _, _, h, _, r => by cases h; cases r; exact ⟨_, .nil⟩
  | d :: ds, _, _, h, hd, r => by
    cases h with
    | cons h1 h2 =>
      cases r with
      | cons r1 r2 =>
        have hd2 : d.hasDict = false ∧ PyData.hasDictAll ds = false := by simpa [PyData.hasDictAll] using hd
        obtain ⟨as, q1⟩ := Tr.reads I h1 hd2.1 r1
        obtain ⟨bs, q2⟩ := Trs.reads I h2 hd2.2 r2
        exact ⟨_, .cons q1 q2⟩
end
end

/-! ### how long a thing is when it is written -/
structure Rk (b n : Nat) (d : PyData) : Prop where
  sh : d.showable = true
  nd : d.hasDict = false
  dp : d.depth ≤ b
  sz : d.shown.length ≤ n
theorem Rk.mono {b n b' n' : Nat} {d : PyData} (h : Rk b n d) (hb : b ≤ b') (hn : n ≤ n') : Rk b' n' d := ⟨h.sh, h.nd, Nat.le_trans h.dp hb, Nat.le_trans h.sz hn⟩
theorem Rk.none : Rk 0 5 .none := ⟨rfl, rfl, Nat.zero_le _, by decide +kernel⟩
theorem Rk.bool {b : Bool} : Rk 0 5 (.bool b) := ⟨rfl, rfl, Nat.zero_le _, by cases b <;> decide +kernel⟩
theorem int_shown {i : Int} {k : Nat} (hk : 0 < k) (h : i.natAbs < 2 ^ k) : (PyData.shown (.int i)).length ≤ k + 1 := by
  have e : (PyData.shown (.int i)) = Str.ofString (toString i) := rfl
  rw [e, ofString_length]
  cases i with
  | ofNat n =>
    have h1 := nat_repr_length_le (n := n) hk (by simpa using h)
    show (Nat.repr n).length ≤ k + 1
    omega
  | negSucc n =>
    have h1 := nat_repr_length_le (n := n + 1) hk (by simpa using h)
    show ("-" ++ Nat.repr (n + 1)).length ≤ k + 1
    rw [String.length_append]
    show 1 + _ ≤ _
    omega
theorem Rk.int {i : Int} (h : i.natAbs < 2 ^ 100) : Rk 0 101 (.int i) := by
  refine ⟨?_, rfl, Nat.zero_le _, int_shown (by decide) h⟩
  show decide _ = true
  refine decide_eq_true ?_
  have h2 : i.natAbs.log2 < 100 := PySem.Flt.log2_lt_of (by decide) h
  omega
theorem piled_le {n : Nat} : ∀ (ts : List Str), (∀ t ∈ ts, t.length ≤ n) → piled ts ≤ ts.length * (n + 2)
  | [], _ => by simp [piled]
  | t :: r, h => by
    have ih := piled_le r fun x hx => h x (List.mem_cons_of_mem _ hx)
    have h1 := h t List.mem_cons_self
    rw [piled_cons, List.length_cons, Nat.add_mul, Nat.one_mul]
    omega
theorem listText_le (ts : List Str) : (listText ts).length ≤ piled ts + 2 := by
  cases ts with
  | nil => decide +kernel
  | cons t r =>
    have h := textFrom_length_pos r 1 (("[" : Str) ++ (if (0 : Nat) > 0 then ", " else "" : String) ++ t) (Nat.succ_pos 0)
    have e : ((("[" : Str) ++ (if (0 : Nat) > 0 then ", " else "" : String) ++ t)).length = 1 + t.length := by
      rw [strLen_append, strLen_append]; rfl
    have hX : (listText (t :: r)).length = (textFrom 1 (("[" : Str) ++ (if (0 : Nat) > 0 then ", " else "" : String) ++ t) r).length + 1 := by
      show (textFrom 0 "[" (t :: r) ++ "]").length = _
      rw [strLen_append]; rfl
    rw [hX, h, e, piled_cons]
    omega
theorem tupleText_le (ts : List Str) : (tupleText ts).length ≤ piled ts + 3 := by
  unfold tupleText
  rw [strLen_append, strLen_append]
  have e1 : ((("(" : String) : Str)).length = 1 := rfl
  have e2 : ((if ts.length == 1 then ",)" else ")" : String) : Str).length ≤ 2 := by split <;> decide +kernel
  have e3 : (Str.join ", " ts).length ≤ piled ts := by
    by_cases h : ts = []
    · subst h; decide +kernel
    · have := join_length_add ts h
      omega
  omega
theorem shownAll_len : ∀ ds : List PyData, (PyData.shownAll ds).length = ds.length
  | [] => rfl
  | _ :: r => congrArg (· + 1) (shownAll_len r)
theorem all_rk {b n : Nat} : ∀ {ds : List PyData}, (∀ d ∈ ds, Rk b n d) → PyData.showableAll ds = true ∧ PyData.hasDictAll ds = false ∧ PyData.depthAll ds ≤ b ∧ ∀ t ∈ PyData.shownAll ds, t.length ≤ n
  | [], _ => ⟨rfl, rfl, Nat.zero_le _, fun _ h => nomatch h⟩
  | d :: r, h => by
    obtain ⟨a1, a2, a3, a4⟩ := all_rk fun x hx => h x (List.mem_cons_of_mem _ hx)
    have hd := h d List.mem_cons_self
    refine ⟨?_, ?_, ?_, fun t ht => ?_⟩
    · show (d.showable && PyData.showableAll r) = true
      rw [hd.sh, a1]; rfl
    · show (d.hasDict || PyData.hasDictAll r) = false
      rw [hd.nd, a2]; rfl
    · show max d.depth (PyData.depthAll r) ≤ b
      exact Nat.max_le.mpr ⟨hd.dp, a3⟩
    · rcases List.mem_cons.mp (show t ∈ d.shown :: PyData.shownAll r from ht) with rfl | ht
      · exact hd.sz
      · exact a4 t ht
theorem Rk.list {b n : Nat} {ds : List PyData} (h : ∀ d ∈ ds, Rk b n d) : Rk (b + 1) (ds.length * (n + 2) + 3) (.list ds) := by
  obtain ⟨a1, a2, a3, a4⟩ := all_rk h
  have h1 := listText_le (PyData.shownAll ds)
  have h2 := piled_le _ a4
  rw [shownAll_len] at h2
  exact ⟨a1, a2, Nat.succ_le_succ a3, by show (listText _).length ≤ _; omega⟩
theorem Rk.tuple {b n : Nat} {ds : List PyData} (h : ∀ d ∈ ds, Rk b n d) : Rk (b + 1) (ds.length * (n + 2) + 3) (.tuple ds) := by
  obtain ⟨a1, a2, a3, a4⟩ := all_rk h
  have h1 := tupleText_le (PyData.shownAll ds)
  have h2 := piled_le _ a4
  rw [shownAll_len] at h2
  exact ⟨a1, a2, Nat.succ_le_succ a3, by show (tupleText _).length ≤ _; omega⟩
theorem Rk.listN {b n m : Nat} {ds : List PyData} (h : ∀ d ∈ ds, Rk b n d) (hm : ds.length ≤ m) : Rk (b + 1) (m * (n + 2) + 3) (.list ds) :=
  (Rk.list h).mono (Nat.le_refl _) (Nat.add_le_add_right (Nat.mul_le_mul_right _ hm) 3)
theorem Rk.tupleN {b n m : Nat} {ds : List PyData} (h : ∀ d ∈ ds, Rk b n d) (hm : ds.length ≤ m) : Rk (b + 1) (m * (n + 2) + 3) (.tuple ds) :=
  (Rk.tuple h).mono (Nat.le_refl _) (Nat.add_le_add_right (Nat.mul_le_mul_right _ hm) 3)
theorem Rk.numL {m : Nat} {xs : List Int} (h : ∀ x ∈ xs, x.natAbs < 2 ^ 100) (hm : xs.length ≤ m) : Rk 1 (m * 103 + 3) (.list (nums xs)) :=
  Rk.listN (n := 101) (fun d hd => by
    obtain ⟨x, hx, rfl⟩ := List.mem_map.mp hd
    exact Rk.int (h x hx)) (by unfold nums; rw [List.length_map]; exact hm)

/-! ### calls of built-ins -/
section
variable {c : CxD} {B : Bs} {e a b : Expr} {es : List Expr} {sl sl1 sl2 sl3 : List Sl} {p q r : Bool} {k k1 k2 : Kd} {ks : List Kd} {pos p1 p2 : Pos} {d d1 d2 : PyData} {ds ds1 ds2 : List PyData} {i j : Int} {xs ys : List Int}
theorem ev_callB {x : Str} {id : String} {r : List V → Hp → VK → Prop} (hc : ∀ X, InCx c X → CallR X (.builtin id) r) (hs : CS c.K r ks k) (ha : AV c B (e :: es) sl p ks sl1) (hm : c.mg x = none) (hv : bootBuiltins x = some (.builtin id))
    (hg : c.sc.names.lookup x = some .globalImplicit := by rfl) (he : ∀ env, starEach (e :: es) env = (false, eval e env) :: starEach es env := by intro env; rfl) (hpl : ∀ env, (backTo pos (starEach es env)).any (·.1) = false := by intro env; rfl)
    (hn : x ≠ "__name__" := by decide) (h1 : (x == ("__debug__" : Str)) = false := by decide) : EV c B (.Call (.Name x p1) (e :: es) [] pos) sl p k sl1 := by
  obtain ⟨ta, ha, sa⟩ := ha
  refine ⟨tCB r ta, fun X hX => pe_callB (hc X hX) (hX.g x hg) (by rw [hX.hm]; exact hm) hv (ha X hX) hn h1 (he _) (hpl _), fun S H σ I Q fn => ?_⟩
  exact sa S H σ I _ fun vs S1 H1 I1 a1 x1 => hs B σ sl1 S1 H1 vs I1 x1 Q (Mw.fin fn a1 fun h => h)
theorem ev_callT {x : Str} {id : String} {r : List V → Hp → VK → Prop} (hc : ∀ X, InCx c X → CallR X (.type id) r) (hs : CS c.K r ks k) (ha : AV c B (e :: es) sl p ks sl1) (hm : c.mg x = none) (hv : bootBuiltins x = some (.type id))
    (hg : c.sc.names.lookup x = some .globalImplicit := by rfl) (he : ∀ env, starEach (e :: es) env = (false, eval e env) :: starEach es env := by intro env; rfl) (hpl : ∀ env, (backTo pos (starEach es env)).any (·.1) = false := by intro env; rfl)
    (hn : x ≠ "__name__" := by decide) (h1 : (x == ("__debug__" : Str)) = false := by decide) : EV c B (.Call (.Name x p1) (e :: es) [] pos) sl p k sl1 := by
  obtain ⟨ta, ha, sa⟩ := ha
  refine ⟨tCB r ta, fun X hX => pe_callTy (hc X hX) (hX.g x hg) (by rw [hX.hm]; exact hm) hv (ha X hX) hn h1 (he _) (hpl _), fun S H σ I Q fn => ?_⟩
  exact sa S H σ I _ fun vs S1 H1 I1 a1 x1 => hs B σ sl1 S1 H1 vs I1 x1 Q (Mw.fin fn a1 fun h => h)
theorem one_arg {K : PySem.W.Frag} {S H : Hp} {σ : L2.St} {vs : List V} (h : KdsOk K B σ sl S H vs [k]) : ∃ v, vs = [v] ∧ KdOk K B σ sl S H v k := by
  cases h with
  | cons h t => cases t; exact ⟨_, rfl, h⟩
theorem two_arg {K : PySem.W.Frag} {S H : Hp} {σ : L2.St} {vs : List V} (h : KdsOk K B σ sl S H vs [k1, k2]) : ∃ v w, vs = [v, w] ∧ KdOk K B σ sl S H v k1 ∧ KdOk K B σ sl S H w k2 := by
  cases h with
  | cons h t =>
    cases t with
    | cons h2 t2 => cases t2; exact ⟨_, _, rfl, h, h2⟩
theorem ev_call1B {x : Str} {id : String} {r : List V → Hp → VK → Prop} (hc : ∀ X, InCx c X → CallR X (.builtin id) r) (hs : US c.K (fun v H Q => r [v] H Q) k1 k) (ha : EV c B e sl p k1 sl1) (hm : c.mg x = none) (hv : bootBuiltins x = some (.builtin id))
    (hg : c.sc.names.lookup x = some .globalImplicit := by rfl) (he : ∀ env, starEach [e] env = (false, eval e env) :: starEach [] env := by intro env; rfl)
    (hn : x ≠ "__name__" := by decide) (h1 : (x == ("__debug__" : Str)) = false := by decide) : EV c B (.Call (.Name x p1) [e] [] pos) sl p k sl1 := by
  have h := ev_callB (pos := pos) (p1 := p1) (ks := [k1]) hc (fun B σ sl S H vs I hv Q q => by
    obtain ⟨v, rfl, hk⟩ := one_arg hv
    exact hs B σ sl S H v I hk Q q) (av_cons ha av_nil rfl he) hm hv hg he (fun env => rfl) hn h1
  rwa [Bool.and_true] at h
theorem ev_call1T {x : Str} {id : String} {r : List V → Hp → VK → Prop} (hc : ∀ X, InCx c X → CallR X (.type id) r) (hs : US c.K (fun v H Q => r [v] H Q) k1 k) (ha : EV c B e sl p k1 sl1) (hm : c.mg x = none) (hv : bootBuiltins x = some (.type id))
    (hg : c.sc.names.lookup x = some .globalImplicit := by rfl) (he : ∀ env, starEach [e] env = (false, eval e env) :: starEach [] env := by intro env; rfl)
    (hn : x ≠ "__name__" := by decide) (h1 : (x == ("__debug__" : Str)) = false := by decide) : EV c B (.Call (.Name x p1) [e] [] pos) sl p k sl1 := by
  have h := ev_callT (pos := pos) (p1 := p1) (ks := [k1]) hc (fun B σ sl S H vs I hv Q q => by
    obtain ⟨v, rfl, hk⟩ := one_arg hv
    exact hs B σ sl S H v I hk Q q) (av_cons ha av_nil rfl he) hm hv hg he (fun env => rfl) hn h1
  rwa [Bool.and_true] at h

theorem ev_intI (ha : EV c B e sl p (.st (.int i)) sl1) (hm : c.mg "int" = none) (hg : c.sc.names.lookup ("int" : Str) = some .globalImplicit := by rfl) (he : ∀ env, starEach [e] env = (false, eval e env) :: starEach [] env := by intro env; rfl) :
    EV c B (.Call (.Name "int" p1) [e] [] pos) sl p (.st (.int i)) sl1 :=
  ev_call1T (fun _ _ => call_int1) (fun B σ sl S H v I hk Q q => .inl ⟨i, by rw [tr_int hk], q.st I (.int i)⟩) ha hm (by decide +kernel) hg he
theorem ev_intB {t : Bool} (ha : EV c B e sl p (.st (.bool t)) sl1) (hm : c.mg "int" = none) (hg : c.sc.names.lookup ("int" : Str) = some .globalImplicit := by rfl) (he : ∀ env, starEach [e] env = (false, eval e env) :: starEach [] env := by intro env; rfl) :
    EV c B (.Call (.Name "int" p1) [e] [] pos) sl p (.st (.int (if t then 1 else 0))) sl1 :=
  ev_call1T (fun _ _ => call_int1) (fun B σ sl S H v I hk Q q => .inr ⟨t, by rw [tr_bl hk], q.st I (.int _)⟩) ha hm (by decide +kernel) hg he
theorem ev_len (ha : EV c B e sl p k1 sl1) (hm : c.mg "len" = none) (hl : LsK k1 ds := by first | exact .st | exact .ls | exact .fr) (hg : c.sc.names.lookup ("len" : Str) = some .globalImplicit := by rfl) (he : ∀ env, starEach [e] env = (false, eval e env) :: starEach [] env := by intro env; rfl) :
    EV c B (.Call (.Name "len" p1) [e] [] pos) sl p (.st (.int (ds.length : Int))) sl1 :=
  ev_call1B (fun X hX => by have := call_len_seq (X := X); rw [hX.hK] at this; exact this) (fun B σ sl S H v I hk Q q => by
    obtain ⟨l, xs, rfl, h1, t⟩ := hl.rd I hk
    refine ⟨l, xs, rfl, .inl h1, ?_⟩
    rw [t.len]
    exact q.st I (.int _)) ha hm (by decide +kernel) hg he
/-- list(xs) of a list -/
theorem ev_list (ha : EV c B e sl p k1 sl1) (hm : c.mg "list" = none) (hl : LsK k1 ds := by first | exact .st | exact .ls | exact .fr) (hg : c.sc.names.lookup ("list" : Str) = some .globalImplicit := by rfl) (he : ∀ env, starEach [e] env = (false, eval e env) :: starEach [] env := by intro env; rfl) :
    EV c B (.Call (.Name "list" p1) [e] [] pos) sl p (.fr (.lst ds)) sl1 :=
  ev_call1T (fun X hX => by have := call_list_of (X := X); rw [hX.hK] at this; exact this) (fun B σ sl S H v I hk Q q => by
    obtain ⟨l, xs, rfl, h1, t⟩ := hl.rd I hk
    exact ⟨l, xs, rfl, .inl h1, fun m hn => q.fresh I hn t⟩) ha hm (by decide +kernel) hg he
theorem ev_sum (ha : EV c B e sl p k1 sl1) (hm : c.mg "sum" = none) (hl : LsK k1 (nums xs) := by first | exact .st | exact .ls | exact .fr) (hg : c.sc.names.lookup ("sum" : Str) = some .globalImplicit := by rfl) (he : ∀ env, starEach [e] env = (false, eval e env) :: starEach [] env := by intro env; rfl) :
    EV c B (.Call (.Name "sum" p1) [e] [] pos) sl p (.st (.int xs.sum)) sl1 :=
  ev_call1B (fun X hX => by have := cr_sum (X := X) hX.calm; rw [hX.hK] at this; exact this) (fun B σ sl S H v I hk Q q => by
    obtain ⟨l, vs, rfl, h1, t⟩ := hl.rd I hk
    cases trs_nums_eq t
    exact ⟨l, xs, rfl, h1, q.st I (.int _)⟩) ha hm (by decide +kernel) hg he
/-- the greatest of a list that is not empty -/
theorem ev_max {m : Int} (ha : EV c B e sl p k1 sl1) (hm : c.mg "max" = none) (h1 : m ∈ xs) (h2 : ∀ y ∈ xs, y ≤ m) (hl : LsK k1 (nums xs) := by first | exact .st | exact .ls | exact .fr) (hg : c.sc.names.lookup ("max" : Str) = some .globalImplicit := by rfl) (he : ∀ env, starEach [e] env = (false, eval e env) :: starEach [] env := by intro env; rfl) :
    EV c B (.Call (.Name "max" p1) [e] [] pos) sl p (.st (.int m)) sl1 :=
  ev_call1B (fun X hX => by have := cr_max (X := X) hX.calm; rw [hX.hK] at this; exact this) (fun B σ sl S H v I hk Q q => by
    obtain ⟨l, vs, rfl, h3, t⟩ := hl.rd I hk
    cases trs_nums_eq t
    refine ⟨l, xs, rfl, h3, List.length_pos_of_mem h1, fun m' hm' hb => ?_⟩
    have e : m' = m := by
      have a1 := h2 m' hm'
      have a2 := hb m h1
      omega
    rw [e]
    exact q.st I (.int _)) ha hm (by decide +kernel) hg he
theorem ev_min {m : Int} (ha : EV c B e sl p k1 sl1) (hm : c.mg "min" = none) (h1 : m ∈ xs) (h2 : ∀ y ∈ xs, m ≤ y) (hl : LsK k1 (nums xs) := by first | exact .st | exact .ls | exact .fr) (hg : c.sc.names.lookup ("min" : Str) = some .globalImplicit := by rfl) (he : ∀ env, starEach [e] env = (false, eval e env) :: starEach [] env := by intro env; rfl) :
    EV c B (.Call (.Name "min" p1) [e] [] pos) sl p (.st (.int m)) sl1 :=
  ev_call1B (fun X hX => by have := cr_min (X := X) hX.calm; rw [hX.hK] at this; exact this) (fun B σ sl S H v I hk Q q => by
    obtain ⟨l, vs, rfl, h3, t⟩ := hl.rd I hk
    cases trs_nums_eq t
    refine ⟨l, xs, rfl, h3, List.length_pos_of_mem h1, fun m' hm' hb => ?_⟩
    have e : m' = m := by
      have a1 := h2 m' hm'
      have a2 := hb m h1
      omega
    rw [e]
    exact q.st I (.int _)) ha hm (by decide +kernel) hg he
/-- two ascending lists of the same numbers are one -/
theorem asc_one : ∀ {xs ys : List Int}, xs.Perm ys → xs.Pairwise (· ≤ ·) → ys.Pairwise (· ≤ ·) → xs = ys
  | xs, ys, hp, h1, h2 => List.Perm.eq_of_pairwise (le := (· ≤ ·)) (fun a b _ _ h3 h4 => Int.le_antisymm h3 h4) h1 h2 hp
theorem ev_sorted (ha : EV c B e sl p k1 sl1) (hm : c.mg "sorted" = none) (h1 : ys.Perm xs) (h2 : ys.Pairwise (· ≤ ·)) (hl : LsK k1 (nums xs) := by first | exact .st | exact .ls | exact .fr) (hg : c.sc.names.lookup ("sorted" : Str) = some .globalImplicit := by rfl) (he : ∀ env, starEach [e] env = (false, eval e env) :: starEach [] env := by intro env; rfl) :
    EV c B (.Call (.Name "sorted" p1) [e] [] pos) sl p (.fr (.lst (nums ys))) sl1 :=
  ev_call1B (fun X hX => by have := cr_sortedI (X := X); rw [hX.hK] at this; exact this) (fun B σ sl S H v I hk Q q => by
    obtain ⟨l, vs, rfl, h3, t⟩ := hl.rd I hk
    cases trs_nums_eq t
    refine ⟨l, xs, rfl, h3, fun ns m hp ho hn => ?_⟩
    cases asc_one (hp.trans h1.symm) ho h2
    exact q.fresh I hn (trs_nums _)) ha hm (by decide +kernel) hg he
theorem bools_trs {K : PySem.W.Frag} {S : Hp} : ∀ {bs : List Bool} {vs : List V}, Trs K S vs (bs.map PyData.bool) → vs = bs.map V.bl
  | [], _, h => by cases h; rfl
  | _ :: r, _, h => by
    cases h with
    | cons h t =>
      cases h
      rw [bools_trs (bs := r) t]
      rfl
theorem ev_any {bs : List Bool} (ha : EV c B e sl p k1 sl1) (hm : c.mg "any" = none) (hl : LsK k1 (bs.map .bool) := by first | exact .st | exact .ls | exact .fr) (hg : c.sc.names.lookup ("any" : Str) = some .globalImplicit := by rfl) (he : ∀ env, starEach [e] env = (false, eval e env) :: starEach [] env := by intro env; rfl) :
    EV c B (.Call (.Name "any" p1) [e] [] pos) sl p (.st (.bool (bs.any id))) sl1 :=
  ev_call1B (fun X hX => by have := cr_any (X := X) hX.calm; rw [hX.hK] at this; exact this) (fun B σ sl S H v I hk Q q => by
    obtain ⟨l, vs, rfl, h3, t⟩ := hl.rd I hk
    cases bools_trs t
    exact ⟨l, bs, rfl, h3, q.st I (.bl _)⟩) ha hm (by decide +kernel) hg he
theorem ev_all {bs : List Bool} (ha : EV c B e sl p k1 sl1) (hm : c.mg "all" = none) (hl : LsK k1 (bs.map .bool) := by first | exact .st | exact .ls | exact .fr) (hg : c.sc.names.lookup ("all" : Str) = some .globalImplicit := by rfl) (he : ∀ env, starEach [e] env = (false, eval e env) :: starEach [] env := by intro env; rfl) :
    EV c B (.Call (.Name "all" p1) [e] [] pos) sl p (.st (.bool (bs.all id))) sl1 :=
  ev_call1B (fun X hX => by have := cr_all (X := X) hX.calm; rw [hX.hK] at this; exact this) (fun B σ sl S H v I hk Q q => by
    obtain ⟨l, vs, rfl, h3, t⟩ := hl.rd I hk
    cases bools_trs t
    exact ⟨l, bs, rfl, h3, q.st I (.bl _)⟩) ha hm (by decide +kernel) hg he

/-! ### repr -/
inductive AsD : Kd → PyData → Prop
  | st {d : PyData} : AsD (.st d) d
  | ls {ds : List PyData} : AsD (.ls ds) (.list ds)
  | fr {ds : List PyData} : AsD (.fr (.lst ds)) (.list ds)
  | nw {d : PyData} : AsD (.nw d) d
  | ft {t : PTr} : AsD (.ft t) t.d
theorem AsD.tr {K : PySem.W.Frag} {S H : Hp} {σ : L2.St} {v : V} (h : AsD k d) (I : Stt K B S H σ sl) (x : KdOk K B σ sl S H v k) : Tr K H v d := by
  cases h with
  | st => exact Tr.mono I.sh x
  | ls =>
    obtain ⟨a, xs, rfl, h1, t⟩ := x
    exact .lst h1 (t.mono I.sh)
  | fr =>
    obtain ⟨l, rfl, _, _, ⟨xs, h1, t⟩, _⟩ := x
    exact .lst (.inl (.inl h1)) (t.mono I.sh)
  | nw => exact x
  | ft =>
    obtain ⟨G, t, h⟩ := x
    exact TrP.tr I.sh t fun _ _ => rfl
theorem ev_repr {n : Nat} (ha : EV c B e sl p k sl1) (hm : c.mg "repr" = none) (hd : Rk 50 n d) (hk1 : AsD k d := by first | exact .st | exact .ls | exact .fr | exact .nw) (hn : n ≤ 16777216 := by omega) (hg : c.sc.names.lookup ("repr" : Str) = some .globalImplicit := by rfl) (he : ∀ env, starEach [e] env = (false, eval e env) :: starEach [] env := by intro env; rfl) :
    EV c B (.Call (.Name "repr" p1) [e] [] pos) sl p (.st (.str d.shown)) sl1 := by
  have hsz : d.shown.length ≤ sizeLine := by rw [sizeLine_eq]; exact Nat.le_trans hd.sz hn
  refine ev_call1B (k1 := k) (id := "repr") (r := fun vs H Q => ∃ v, vs = [v] ∧ Tr c.K H v d ∧ Q (.str d.shown) H) (fun X hX => ?_) (fun B σ sl S H v I hk Q q => ⟨v, rfl, hk1.tr I hk, q.st I (.str _)⟩) ha hm (by decide +kernel) hg he
  intro pins s σ H vs us Q I r h
  obtain ⟨v, rfl, t, q⟩ := h
  rw [← hX.hK] at t
  obtain ⟨u, rfl, ru⟩ : ∃ u, us = [u] ∧ RelV v u := by
    cases r with
    | cons r1 r2 => cases r2; exact ⟨_, rfl, r1⟩
  obtain ⟨as, rd⟩ := Tr.reads I t hd.nd ru
  have fin : ∀ tk tk', EP X pins σ Q (.str d.shown tk) { s with toks := tk' } := fun tk tk' => ⟨.str d.shown, H, I.tok _, ⟨_, rfl⟩, q⟩
  have ref : ∀ a, u = Value.ref a → wpAny (model X.prog X.w) X.A (call (.builtin "repr") [u]) (EP X pins σ Q) X.xe s := fun a ea => by
    subst ea
    refine repr_of_reads' rd hd.sh (fun h => by rw [hd.nd] at h; cases h) hX.gu ?_ (fun _ _ h => h) (fun h' u tk hk => ?_) hsz
    · have := hX.rm.units
      have := hd.dp
      omega
    · exact ⟨.str d.shown, H, I.kept hk, ⟨_, rfl⟩, q⟩
  cases rd with
  | none => exact PySem.P.repr_of_none (fin _ _)
  | bool b => exact PySem.P.repr_of_bool (fin _ _)
  | int i t => exact PySem.P.repr_of_int (of_decide_eq_true hd.sh) (fin _ _)
  | str x t => exact PySem.P.repr_of_str (fin _ _) hsz
  | list h1 h2 h3 h4 => exact ref _ rfl
  | tuple h1 h2 h3 h4 => exact ref _ rfl
  | dict h1 h2 h3 h4 h5 => exact ref _ rfl

/-! ### == and != of trees -/
def canEq (d : PyData) : Prop := SeqAt.shaped d = true ∧ d.hasDict = false
def rEqT (K : PySem.W.Frag) (neg : Bool) : R2 := fun x y H Q => ∃ d e, Tr K H x d ∧ Tr K H y e ∧ canEq d ∧ canEq e ∧ Q (.bl (if neg then !PyData.eqv d e else PyData.eqv d e)) H
theorem op_eqT {X : Cx} (hu : X.A.units + 64 < cLine) : OpR X (compareOp .Eq) (rEqT X.K false) := by
  intro pins s σ H x y v u Q I rx ry h
  obtain ⟨d, e, hd, he, sd, se, q⟩ := h
  obtain ⟨as, r1⟩ := Tr.reads I hd sd.2 rx
  obtain ⟨bs, r2⟩ := Tr.reads I he se.2 ry
  exact SeqAt.compareEq_shaped r1 r2 sd.1 se.1 hu ⟨.bl _, H, I, rfl, q⟩
theorem op_neT {X : Cx} (hu : X.A.units + 64 < cLine) : OpR X (compareOp .NotEq) (rEqT X.K true) := by
  intro pins s σ H x y v u Q I rx ry h
  obtain ⟨d, e, hd, he, sd, se, q⟩ := h
  obtain ⟨as, r1⟩ := Tr.reads I hd sd.2 rx
  obtain ⟨bs, r2⟩ := Tr.reads I he se.2 ry
  exact SeqAt.compareNe_shaped r1 r2 sd.1 se.1 hu ⟨.bl _, H, I, rfl, q⟩
theorem cm_eqD (ha : EV c B a sl p k1 sl1) (hb : EV c B b sl1 true k2 sl2) (h1 : AsD k1 d1) (h2 : AsD k2 d2) (s1 : canEq d1) (s2 : canEq d2) : CM c B .Eq a b sl p (PyData.eqv d1 d2) sl2 := by
  have h := cm_of (op := .Eq) (r := rEqT c.K false) (t := PyData.eqv d1 d2) (fun X hX => by rw [← hX.hK]; exact op_eqT hX.rm.units) (nobehind _ (by decide) (by decide)) (fun B σ sl S H x y I hx hy Q q => ⟨d1, d2, h1.tr I hx, h2.tr I hy, s1, s2, q.st I (.bl _)⟩) ha hb rfl
  rwa [Bool.and_true] at h
theorem cm_neD (ha : EV c B a sl p k1 sl1) (hb : EV c B b sl1 true k2 sl2) (h1 : AsD k1 d1) (h2 : AsD k2 d2) (s1 : canEq d1) (s2 : canEq d2) : CM c B .NotEq a b sl p (!PyData.eqv d1 d2) sl2 := by
  have h := cm_of (op := .NotEq) (r := rEqT c.K true) (t := !PyData.eqv d1 d2) (fun X hX => by rw [← hX.hK]; exact op_neT hX.rm.units) (nobehind _ (by decide) (by decide)) (fun B σ sl S H x y I hx hy Q q => ⟨d1, d2, h1.tr I hx, h2.tr I hy, s1, s2, q.st I (.bl _)⟩) ha hb rfl
  rwa [Bool.and_true] at h
theorem canLay_nums : ∀ xs : List Int, PyData.canLayAll0 (nums xs) = true
  | [] => rfl
  | x :: r => canLay_nums r
theorem depth_nums : ∀ xs : List Int, PyData.depthAll (nums xs) = 0
  | [] => rfl
  | x :: r => by show max 0 (PyData.depthAll (nums r)) = 0; rw [depth_nums r]; rfl
theorem noDict_nums : ∀ xs : List Int, PyData.hasDictAll (nums xs) = false
  | [] => rfl
  | x :: r => noDict_nums r
theorem canEq_nums (xs : List Int) : canEq (.list (nums xs)) := by
  refine ⟨?_, noDict_nums xs⟩
  show ((PyData.canLay0 (.list (nums xs))) && decide (PyData.depth (.list (nums xs)) ≤ 64)) = true
  have e : PyData.depth (.list (nums xs)) = 1 := by show PyData.depthAll _ + 1 = 1; rw [depth_nums]
  rw [e]
  exact Bool.and_eq_true_iff.mpr ⟨canLay_nums xs, rfl⟩
theorem eqv_nums : ∀ xs ys : List Int, PyData.eqvAll (nums xs) (nums ys) = decide (xs = ys)
  | [], [] => rfl
  | [], _ :: _ => rfl
  | _ :: _, [] => rfl
  | x :: xs, y :: ys => by
    show ((x == y) && PyData.eqvAll (nums xs) (nums ys)) = _
    rw [eqv_nums xs ys]
    by_cases h1 : x = y
    · subst h1
      simp
    · simp [h1]
theorem cm_eqN (ha : EV c B a sl p k1 sl1) (hb : EV c B b sl1 true k2 sl2) (h1 : AsD k1 (.list (nums xs)) := by first | exact .st | exact .ls | exact .fr) (h2 : AsD k2 (.list (nums ys)) := by first | exact .st | exact .ls | exact .fr) : CM c B .Eq a b sl p (decide (xs = ys)) sl2 := by
  have h := cm_eqD ha hb h1 h2 (canEq_nums xs) (canEq_nums ys)
  have e : PyData.eqv (.list (nums xs)) (.list (nums ys)) = decide (xs = ys) := eqv_nums xs ys
  rwa [e] at h
theorem cm_neN (ha : EV c B a sl p k1 sl1) (hb : EV c B b sl1 true k2 sl2) (h1 : AsD k1 (.list (nums xs)) := by first | exact .st | exact .ls | exact .fr) (h2 : AsD k2 (.list (nums ys)) := by first | exact .st | exact .ls | exact .fr) : CM c B .NotEq a b sl p (!decide (xs = ys)) sl2 := by
  have h := cm_neD ha hb h1 h2 (canEq_nums xs) (canEq_nums ys)
  have e : PyData.eqv (.list (nums xs)) (.list (nums ys)) = decide (xs = ys) := eqv_nums xs ys
  rwa [e] at h

/-! ### in -/
theorem flat_toV : ∀ {ds : List PyData} {K : PySem.W.Frag} {S : Hp} {vs : List V}, Trs K S vs ds → ds.all flatD = true → vs = ds.map toV ∧ vs.all flatV = true
  | [], _, _, _, h, _ => by cases h; exact ⟨rfl, rfl⟩
  | d :: r, _, _, _, h, hf => by
    cases h with
    | cons h t =>
      rw [List.all_cons, Bool.and_eq_true] at hf
      obtain ⟨e1, e2⟩ := flat_toV t hf.2
      have e3 := tr_flat h hf.1
      refine ⟨by rw [List.map_cons, ← e1, ← e3], ?_⟩
      rw [List.all_cons, e2, Bool.and_true, e3]
      have h2 := hf.1
      cases d <;> first | rfl | cases h2
theorem flatV_toV (h : flatD d = true) : flatV (toV d) = true := by cases d <;> first | rfl | cases h
def inD (d : PyData) (ds : List PyData) : Bool := inV (toV d) (ds.map toV)
theorem os_in {neg : Bool} (hl : LsK k2 ds) (h1 : flatD d = true) (h2 : ds.all flatD = true) : OS c.K (rIn c.K neg) (.st d) k2 (.st (.bool (if neg then !inD d ds else inD d ds))) := fun B σ sl S H x y I hx hy Q q => by
  obtain ⟨l, vs, rfl, h3, t⟩ := hl.rd I hy
  obtain ⟨e, f⟩ := flat_toV t h2
  have ex := tr_flat hx h1
  refine ⟨l, vs, rfl, .inl h3, by rw [ex]; exact flatV_toV h1, f, ?_⟩
  rw [e, ex]
  exact q.st I (.bl _)
theorem behind_name {op : CmpOp} {x : Str} : behindInMarks op (.Name x pos) = false := by cases op <;> rfl
theorem cm_in (ha : EV c B a sl p (.st d) sl1) (hb : EV c B b sl1 q k2 sl2) (h1 : flatD d = true) (h2 : ds.all flatD = true) (hm : behindInMarks .In b = false := by rfl) (hl : LsK k2 ds := by first | exact .st | exact .ls | exact .fr) : CM c B .In a b sl (p && q) (inD d ds) sl2 :=
  cm_of (fun X hX => by rw [← hX.hK]; exact op_in_seq) hm (os_in (neg := false) hl h1 h2) ha hb (by simp [Kd.firm])
theorem cm_notIn (ha : EV c B a sl p (.st d) sl1) (hb : EV c B b sl1 q k2 sl2) (h1 : flatD d = true) (h2 : ds.all flatD = true) (hm : behindInMarks .NotIn b = false := by rfl) (hl : LsK k2 ds := by first | exact .st | exact .ls | exact .fr) : CM c B .NotIn a b sl (p && q) (!inD d ds) sl2 :=
  cm_of (fun X hX => by rw [← hX.hK]; exact op_notIn_seq) hm (os_in (neg := true) hl h1 h2) ha hb (by simp [Kd.firm])
theorem flat_nums : ∀ xs : List Int, (nums xs).all flatD = true
  | [] => rfl
  | _ :: r => flat_nums r
theorem inD_nums (x : Int) : ∀ xs : List Int, inD (.int x) (nums xs) = decide (x ∈ xs)
  | [] => rfl
  | y :: r => by
    show ((y == x) || inD (.int x) (nums r)) = _
    rw [inD_nums x r]
    by_cases h : y = x
    · subst h; simp
    · have h' : ¬ x = y := fun z => h z.symm
      simp [h, h']
theorem cm_inN (ha : EV c B a sl p (.st (.int i)) sl1) (hb : EV c B b sl1 q k2 sl2) (hm : behindInMarks .In b = false := by rfl) (hl : LsK k2 (nums xs) := by first | exact .st | exact .ls | exact .fr) : CM c B .In a b sl (p && q) (decide (i ∈ xs)) sl2 :=
  (cm_in ha hb rfl (flat_nums xs) hm hl).to (by rw [inD_nums])
theorem cm_notInN (ha : EV c B a sl p (.st (.int i)) sl1) (hb : EV c B b sl1 q k2 sl2) (hm : behindInMarks .NotIn b = false := by rfl) (hl : LsK k2 (nums xs) := by first | exact .st | exact .ls | exact .fr) : CM c B .NotIn a b sl (p && q) (!decide (i ∈ xs)) sl2 :=
  (cm_notIn ha hb rfl (flat_nums xs) hm hl).to (by rw [inD_nums])

/-! ### slices, list operators -/
def cutD {α : Type} (ds : List α) (lo hi : Option Int) : List α := (ds.drop (HT.sIx ds.length 0 lo)).take (HT.sIx ds.length ds.length hi - HT.sIx ds.length 0 lo)
theorem trs_cut {K : PySem.W.Frag} {S : Hp} {vs : List V} {ds : List PyData} (t : Trs K S vs ds) (lo hi : Option Int) : Trs K S (cutV vs lo hi) (cutD ds lo hi) := by
  unfold cutV cutD
  rw [t.len]
  exact (t.drop _).take _
/-- a bound of a slice, pure -/
def SO (c : CxD) (B : Bs) (e : Option Expr) (sl : List Sl) (o : Option Int) : Prop := ∃ t, (∀ X, InCx c X → PO X e t) ∧ ∀ S H σ, Stt c.K B S H σ sl → ∀ Q : Option Int → Hp → Prop, (∀ S' H', Stt c.K B S' H' σ sl → Adv σ sl S H sl S' H' true → Q o H') → t σ H Q
theorem so_none : SO c B none sl none := ⟨tNoPart, fun _ _ => po_none, fun S H σ I Q q => q S H I .refl⟩
theorem so_some (h : EV c B e sl true (.st (.int i)) sl) : SO c B (some e) sl (some i) := by
  obtain ⟨t, ht, hs⟩ := h
  exact ⟨tPart t, fun X hX => po_some (ht X hX), fun S H σ I Q q => hs S H σ I _ fun v S1 H1 I1 a1 x1 _ => ⟨i, tr_int x1, q S1 H1 I1 a1⟩⟩
theorem ev_slice {lo hi : Option Expr} {o u : Option Int} (ha : EV c B a sl p k1 sl1) (h1 : SO c B lo sl1 o) (h2 : SO c B hi sl1 u) (hl : LsK k1 ds := by first | exact .st | exact .ls | exact .fr) : EV c B (.Subscript a (.Slice lo hi none p2) pos) sl p (.fr (.lst (cutD ds o u))) sl1 := by
  obtain ⟨ta, ha, sa⟩ := ha
  obtain ⟨t1, g1, s1⟩ := h1
  obtain ⟨t2, g2, s2⟩ := h2
  refine ⟨tSl (rSlL c.K) ta t1 t2, fun X hX => pe_slice (by rw [← hX.hK]; exact sl_list) (ha X hX) (g1 X hX) (g2 X hX), fun S H σ I Q fn => ?_⟩
  refine sa S H σ I _ fun x S1 H1 I1 a1 x1 f1 => s1 S1 H1 σ I1 _ fun S2 H2 I2 a2 => s2 S2 H2 σ I2 _ fun S3 H3 I3 a3 => ?_
  obtain ⟨l, vs, rfl, hq, t⟩ := hl.rd I3 ((x1.adv a2 rfl).adv a3 rfl)
  exact ⟨l, vs, rfl, hq, fun m hn => (Mw.fin fn ((a1.trans a2).trans a3) fun h => by rw [h]; rfl).fresh I3 hn (trs_cut t _ _)⟩
/-- xs + ys -/
theorem frL {K : PySem.W.Frag} {S H : Hp} {σ : L2.St} {v : V} (x : KdOk K B σ sl S H v (.fr (.lst ds))) : ∃ l vs, v = .ref l ∧ H l = some (.lst vs) ∧ Trs K S vs ds := by
  obtain ⟨l, e, _, _, ⟨xs, h1, t⟩, _⟩ := x
  exact ⟨l, xs, e, h1, t⟩
end
end Mw

/-! MwD: tests, statements, loops, comprehensions. -/
namespace Mw
open PySem PySem.Spec L2
variable [Tb]

/-! ## readings chosen where they are run -/
def rE (c : CxD) (e : Expr) : TE := fun σ H Q => ∃ t, (∀ X, InCx c X → PE X e t) ∧ t σ H Q
def rT (c : CxD) (e : Expr) : TT := fun σ H Q => ∃ t, (∀ X, InCx c X → PT X e t) ∧ t σ H Q
def rB (c : CxD) (ss : List Stmt) : TS := fun D σ H => ∃ t, (∀ X, InCx c X → PSs X ss t) ∧ t D σ H
section
variable {c : CxD} {X : Cx}
theorem pe_rE {e : Expr} (h : InCx c X) : PE X e (rE c e) := ⟨fun pins s σ H Q I hq => by
  obtain ⟨t, ht, q⟩ := hq
  exact (ht X h).run pins s σ H Q I q⟩
theorem pt_rT {e : Expr} (h : InCx c X) : PT X e (rT c e) := ⟨fun pins s σ H Q I hq => by
  obtain ⟨t, ht, q⟩ := hq
  exact (ht X h).run pins s σ H Q I q⟩
theorem ps_rB {ss : List Stmt} (h : InCx c X) : PSs X ss (rB c ss) := ⟨fun pins s σ H Q I hq => by
  obtain ⟨t, ht, q⟩ := hq
  exact (ht X h).run pins s σ H Q I q⟩
end
section
variable {c : CxD} {B : Bs} {e a b : Expr} {sl sl1 sl2 sl3 : List Sl} {p q r : Bool} {k k1 k2 : Kd} {pos p1 p2 : Pos} {t u : Bool}
theorem EV.rr (h : EV c B e sl p k sl1) : SemE c.K B (rE c e) sl p k sl1 := fun S H σ I Q q => by
  obtain ⟨t, ht, hs⟩ := h
  exact ⟨t, ht, hs S H σ I Q q⟩
theorem EV.mk (h : SemE c.K B (rE c e) sl p k sl1) : EV c B e sl p k sl1 := ⟨rE c e, fun X hX => pe_rE hX, h⟩
theorem TV.rr (h : TV c B e sl p t sl1) : SemT c.K B (rT c e) sl p t sl1 := fun S H σ I Q q => by
  obtain ⟨t, ht, hs⟩ := h
  exact ⟨t, ht, hs S H σ I Q q⟩

/-! ## tests -/
theorem tv_val (h : EV c B e sl p (.st (.bool t)) sl1) (he : ∀ env whole, isTrue e env whole = (do let v ← whole; standAt e.pos; holding [v] (truthy v)) := by intro _ _; rfl) : TV c B e sl p t sl1 := by
  obtain ⟨te, h, hs⟩ := h
  refine ⟨tB te, fun X hX => pt_val (h X hX) (he _), fun S H σ I Q q => ?_⟩
  exact hs S H σ I _ fun v S1 H1 I1 a1 x1 _ => ⟨t, tr_bl x1, q S1 H1 I1 a1⟩
theorem tv_not (h : TV c B e sl p t sl1) : TV c B (.UnaryOp .Not e pos) sl p (!t) sl1 := by
  obtain ⟨te, h, hs⟩ := h
  exact ⟨tNot te, fun X hX => pt_not (h X hX), fun S H σ I Q q => hs S H σ I _ fun S1 H1 I1 a1 => q S1 H1 I1 a1⟩
theorem WV.tt (h : WV c B e sl p t sl1) : TV c B e sl p t sl1 := by
  obtain ⟨te, h, hs⟩ := h
  exact ⟨te, fun X hX => (h X hX).pt, hs⟩
theorem wv_and1 (h : TV c B e sl p t sl1) : WV c B (.BoolOp .And [e] pos) sl p t sl1 := by
  obtain ⟨te, h, hs⟩ := h
  exact ⟨te, fun X hX => pw_and1 (h X hX), hs⟩
theorem wv_or1 (h : TV c B e sl p t sl1) : WV c B (.BoolOp .Or [e] pos) sl p t sl1 := by
  obtain ⟨te, h, hs⟩ := h
  exact ⟨te, fun X hX => pw_or1 (h X hX), hs⟩
def rW (c : CxD) (e : Expr) : TT := fun σ H Q => ∃ t, (∀ X, InCx c X → PW X e t) ∧ t σ H Q
theorem pw_rW {X : Cx} (h : InCx c X) : PW X e (rW c e) := ⟨fun wh pins s σ H Q I hq => by
  obtain ⟨t, ht, q⟩ := hq
  exact (ht X h).run wh pins s σ H Q I q⟩
theorem wv_and {rest : List Expr} (h : TV c B a sl p t sl1) (h2 : t = true → WV c B (.BoolOp .And (b :: rest) pos) sl1 q u sl2) (h3 : t = false → sl2 = sl1) : WV c B (.BoolOp .And (a :: b :: rest) pos) sl (p && q) (t && u) sl2 := by
  obtain ⟨te, h, hs⟩ := h
  refine ⟨tAnd te (rW c (.BoolOp .And (b :: rest) pos)), fun X hX => pw_and (h X hX) (pw_rW hX), fun S H σ I Q fn => ?_⟩
  refine hs S H σ I _ fun S1 H1 I1 a1 => ?_
  cases t with
  | true =>
    obtain ⟨t2, g2, s2⟩ := h2 rfl
    show rW c _ σ H1 Q
    exact ⟨t2, g2, s2 S1 H1 σ I1 Q fun S2 H2 I2 a2 => fn S2 H2 I2 (a1.trans a2)⟩
  | false =>
    cases h3 rfl
    show Q false H1
    exact fn S1 H1 I1 (a1.weak fun e => (Bool.and_eq_true_iff.mp e).1)
theorem wv_or {rest : List Expr} (h : TV c B a sl p t sl1) (h2 : t = false → WV c B (.BoolOp .Or (b :: rest) pos) sl1 q u sl2) (h3 : t = true → sl2 = sl1) : WV c B (.BoolOp .Or (a :: b :: rest) pos) sl (p && q) (t || u) sl2 := by
  obtain ⟨te, h, hs⟩ := h
  refine ⟨tOr te (rW c (.BoolOp .Or (b :: rest) pos)), fun X hX => pw_or (h X hX) (pw_rW hX), fun S H σ I Q fn => ?_⟩
  refine hs S H σ I _ fun S1 H1 I1 a1 => ?_
  cases t with
  | false =>
    obtain ⟨t2, g2, s2⟩ := h2 rfl
    show rW c _ σ H1 Q
    exact ⟨t2, g2, s2 S1 H1 σ I1 Q fun S2 H2 I2 a2 => fn S2 H2 I2 (a1.trans a2)⟩
  | true =>
    cases h3 rfl
    show Q true H1
    exact fn S1 H1 I1 (a1.weak fun e => (Bool.and_eq_true_iff.mp e).1)
/-- the same where the slots stay -/
theorem tv_and (h : TV c B a sl p t sl) (h2 : t = true → TV c B b sl q u sl) : TV c B (.BoolOp .And [a, b] pos) sl (p && q) (t && u) sl := (wv_and h (fun e => wv_and1 (h2 e)) fun _ => rfl).tt
theorem tv_or (h : TV c B a sl p t sl) (h2 : t = false → TV c B b sl q u sl) : TV c B (.BoolOp .Or [a, b] pos) sl (p && q) (t || u) sl := (wv_or h (fun e => wv_or1 (h2 e)) fun _ => rfl).tt
/-- as values -/
theorem ev_one {op : BoolOp} (h : EV c B a sl p k sl1) : EV c B (.BoolOp op [a] pos) sl p k sl1 := by
  obtain ⟨te, h, hs⟩ := h
  exact ⟨te, fun X hX => pe_one (h X hX), hs⟩
theorem ev_andG {rest : List Expr} (h : EV c B a sl p (.st (.bool t)) sl1) (h2 : t = true → EV c B (.BoolOp .And (b :: rest) pos) sl1 q (.st (.bool u)) sl2) (h3 : t = false → sl2 = sl1) :
    EV c B (.BoolOp .And (a :: b :: rest) pos) sl (p && q) (.st (.bool (t && u))) sl2 := by
  obtain ⟨te, h, hs⟩ := h
  refine ⟨tAndV te (rE c (.BoolOp .And (b :: rest) pos)), fun X hX => pe_and (h X hX) (pe_rE hX), fun S H σ I Q fn => ?_⟩
  refine hs S H σ I _ fun v S1 H1 I1 a1 x1 _ => ⟨t, tr_bl x1, ?_⟩
  cases t with
  | true =>
    rw [if_pos rfl]
    exact (h2 rfl).rr S1 H1 σ I1 Q fun v S2 H2 I2 a2 x2 f2 => fn v S2 H2 I2 (a1.trans a2) x2 trivial
  | false =>
    cases h3 rfl
    rw [if_neg Bool.false_ne_true]
    exact fn _ S1 H1 I1 (a1.weak fun e => (Bool.and_eq_true_iff.mp e).1) (.bl _) trivial
theorem ev_orG {rest : List Expr} (h : EV c B a sl p (.st (.bool t)) sl1) (h2 : t = false → EV c B (.BoolOp .Or (b :: rest) pos) sl1 q (.st (.bool u)) sl2) (h3 : t = true → sl2 = sl1) :
    EV c B (.BoolOp .Or (a :: b :: rest) pos) sl (p && q) (.st (.bool (t || u))) sl2 := by
  obtain ⟨te, h, hs⟩ := h
  refine ⟨tOrV te (rE c (.BoolOp .Or (b :: rest) pos)), fun X hX => pe_or (h X hX) (pe_rE hX), fun S H σ I Q fn => ?_⟩
  refine hs S H σ I _ fun v S1 H1 I1 a1 x1 _ => ⟨t, tr_bl x1, ?_⟩
  cases t with
  | false =>
    rw [if_neg Bool.false_ne_true]
    exact (h2 rfl).rr S1 H1 σ I1 Q fun v S2 H2 I2 a2 x2 f2 => fn v S2 H2 I2 (a1.trans a2) x2 trivial
  | true =>
    cases h3 rfl
    rw [if_pos rfl]
    exact fn _ S1 H1 I1 (a1.weak fun e => (Bool.and_eq_true_iff.mp e).1) (.bl _) trivial
theorem ev_and (h : EV c B a sl p (.st (.bool t)) sl) (h2 : t = true → EV c B b sl q (.st (.bool u)) sl) : EV c B (.BoolOp .And [a, b] pos) sl (p && q) (.st (.bool (t && u))) sl := ev_andG h (fun e => ev_one (h2 e)) fun _ => rfl
theorem ev_or (h : EV c B a sl p (.st (.bool t)) sl) (h2 : t = false → EV c B b sl q (.st (.bool u)) sl) : EV c B (.BoolOp .Or [a, b] pos) sl (p && q) (.st (.bool (t || u))) sl := ev_orG h (fun e => ev_one (h2 e)) fun _ => rfl
theorem ev_not (h : EV c B a sl p (.st (.bool t)) sl1) : EV c B (.UnaryOp .Not a pos) sl p (.st (.bool (!t))) sl1 := by
  obtain ⟨te, h, hs⟩ := h
  refine ⟨tNotV te, fun X hX => pe_not (h X hX), fun S H σ I Q fn => ?_⟩
  exact hs S H σ I _ fun v S1 H1 I1 a1 x1 _ => ⟨t, tr_bl x1, fn _ S1 H1 I1 a1 (.bl _) trivial⟩
theorem ev_if (h : TV c B e sl p t sl1) (h1 : t = true → EV c B a sl1 q k sl2) (h2 : t = false → EV c B b sl1 q k sl2) : EV c B (.IfExp e a b pos) sl (p && q) k sl2 := by
  obtain ⟨te, h, hs⟩ := h
  refine ⟨tIf te (rE c a) (rE c b), fun X hX => pe_ifExp (h X hX) (pe_rE hX) (pe_rE hX), fun S H σ I Q fn => ?_⟩
  refine hs S H σ I _ fun S1 H1 I1 a1 => ?_
  cases t with
  | true =>
    rw [if_pos rfl]
    exact (h1 rfl).rr S1 H1 σ I1 Q fun v S2 H2 I2 a2 x2 f2 => fn v S2 H2 I2 (a1.trans a2) x2 (f2.back a1)
  | false =>
    rw [if_neg Bool.false_ne_true]
    exact (h2 rfl).rr S1 H1 σ I1 Q fun v S2 H2 I2 a2 x2 f2 => fn v S2 H2 I2 (a1.trans a2) x2 (f2.back a1)
/-- a < b < c -/
theorem ev_chainI {op op' : CmpOp} {f g : Int → Int → Bool} {i j m : Int} {d3 : Expr} (ho : ∀ X, InCx c X → OpR X (compareOp op) (rI0 fun i j => .bl (f i j))) (ho' : ∀ X, InCx c X → OpR X (compareOp op') (rI0 fun i j => .bl (g i j)))
    (ha : EV c B a sl true (.st (.int i)) sl) (hb : EV c B b sl true (.st (.int j)) sl) (hc : f i j = true → EV c B d3 sl true (.st (.int m)) sl) (hm : lastMarks [op, op'] [b, d3] = false := by with_unfolding_all rfl) :
    EV c B (.Compare a [op, op'] [b, d3] pos) sl true (.st (.bool (f i j && g j m))) sl := by
  obtain ⟨ta, ga, sa⟩ := ha
  obtain ⟨tb, gb, sb⟩ := hb
  refine ⟨tChain _ _ ta tb (rE c d3), fun X hX => pe_chain (ho X hX) (ho' X hX) (ga X hX) (gb X hX) (pe_rE hX) hm, fun S H σ I Q fn => ?_⟩
  refine sa S H σ I _ fun x S1 H1 I1 a1 x1 f1 => sb S1 H1 σ I1 _ fun y S2 H2 I2 a2 x2 f2 => ?_
  refine ⟨i, j, tr_int x1, tr_int x2, f i j, rfl, ?_⟩
  have aa := a1.trans a2
  cases hf : f i j with
  | true =>
    rw [if_pos rfl]
    exact (hc hf).rr S2 H2 σ I2 _ fun z S3 H3 I3 a3 x3 f3 => ⟨j, m, tr_int x2, tr_int x3, fn _ S3 H3 I3 (aa.trans a3) (by rw [hf]; exact .bl _) trivial⟩
  | false =>
    rw [if_neg Bool.false_ne_true]
    exact fn _ S2 H2 I2 aa (by rw [hf]; exact .bl _) trivial
theorem tv_chainI {op op' : CmpOp} {f g : Int → Int → Bool} {i j m : Int} {d3 : Expr} (ho : ∀ X, InCx c X → OpR X (compareOp op) (rI0 fun i j => .bl (f i j))) (ho' : ∀ X, InCx c X → OpR X (compareOp op') (rI0 fun i j => .bl (g i j)))
    (ha : EV c B a sl true (.st (.int i)) sl) (hb : EV c B b sl true (.st (.int j)) sl) (hc : f i j = true → EV c B d3 sl true (.st (.int m)) sl) (hm : lastMarks [op, op'] [b, d3] = false := by with_unfolding_all rfl) :
    TV c B (.Compare a [op, op'] [b, d3] pos) sl true (f i j && g j m) sl := by
  obtain ⟨ta, ga, sa⟩ := ha
  obtain ⟨tb, gb, sb⟩ := hb
  refine ⟨tTest (tChain _ _ ta tb (rE c d3)), fun X hX => pt_chain (ho X hX) (ho' X hX) (ga X hX) (gb X hX) (pe_rE hX) hm, fun S H σ I Q fn => ?_⟩
  refine sa S H σ I _ fun x S1 H1 I1 a1 x1 f1 => sb S1 H1 σ I1 _ fun y S2 H2 I2 a2 x2 f2 => ?_
  refine ⟨i, j, tr_int x1, tr_int x2, f i j, rfl, ?_⟩
  have aa := a1.trans a2
  cases hf : f i j with
  | true =>
    rw [if_pos rfl]
    exact (hc hf).rr S2 H2 σ I2 _ fun z S3 H3 I3 a3 x3 f3 => ⟨j, m, tr_int x2, tr_int x3, g j m, rfl, by have := fn S3 H3 I3 (aa.trans a3); rw [hf] at this; exact this⟩
  | false =>
    rw [if_neg Bool.false_ne_true]
    exact ⟨false, rfl, by have := fn S2 H2 I2 aa; rw [hf] at this; exact this⟩
end

/-! ## slots -/
section
variable {K : PySem.W.Frag} {B : Bs} {S S' H H' : Hp} {σ : L2.St} {sl : List Sl} {v : V} {i : Nat}
theorem Stt.put (I : Stt K B S H σ sl) (s : Sl) (hs : SlOk K B S H (some v) s) (hd : ∀ a, FpS s (some v) a → ¬ OwnAt σ sl a) (hi : (sl[i]?).isSome = true) : Stt K B S H (σ.set i (some v)) (sl.set i s) := by
  have hl : i < sl.length := by
    cases e : sl[i]? with
    | none => rw [e] at hi; cases hi
    | some _ => exact (List.getElem?_eq_some_iff.mp e).1
  have hlσ : i < σ.length := by rw [I.len]; exact hl
  refine ⟨I.s0, I.sh, I.new, I.keep, I.dom, I.lsd, by rw [List.length_set, List.length_set]; exact I.len, fun j s' e => ?_, fun j1 j2 a x1 x2 => ?_, I.tabs, I.tbk, I.snt, I.sm⟩
  · by_cases hj : j = i
    · subst hj
      rw [List.getElem?_set_self hl] at e
      cases e
      exact ⟨some v, by rw [List.getElem?_set_self hlσ], hs⟩
    · rw [List.getElem?_set_ne (Ne.symm hj)] at e
      obtain ⟨x, hx, ok⟩ := I.slot j s' e
      exact ⟨x, by rw [List.getElem?_set_ne (Ne.symm hj)]; exact hx, ok⟩
  · rcases fpAt_set x1 with ⟨h1, f1⟩ | ⟨h1, f1⟩
    · rcases fpAt_set x2 with ⟨h2, f2⟩ | ⟨h2, f2⟩
      · exact I.dis j1 j2 a f1 f2
      · exact absurd ⟨j1, f1⟩ (hd a f2)
    · rcases fpAt_set x2 with ⟨h2, f2⟩ | ⟨h2, f2⟩
      · exact absurd ⟨j2, f2⟩ (hd a f1)
      · rw [h1, h2]
/-- what an expression's result makes of a slot -/
def Kd.asS : Kd → Sl
  | .st d => .val d
  | .ls _ => .no
  | .fr o => .own o
  | .raw v => .raw v
  | .at _ => .no
  | .nw _ => .no
  | .ft _ => .no
theorem Stt.set {k : Kd} (I : Stt K B S H σ sl) (h : KdOk K B σ sl S H v k) (hi : (sl[i]?).isSome = true) : Stt K B S H (σ.set i (some v)) (sl.set i k.asS) := by
  cases k with
  | st d => exact I.put (.val d) ⟨v, rfl, h⟩ (fun _ m => absurd m fpS_val) hi
  | ls d => exact I.put .no trivial (fun _ m => absurd m fpS_no) hi
  | raw u => exact I.put (.raw u) (by cases h; rfl) (fun _ m => absurd m fpS_raw) hi
  | «at» j => exact I.put .no trivial (fun _ m => absurd m fpS_no) hi
  | nw j => exact I.put .no trivial (fun _ m => absurd m fpS_no) hi
  | ft j => exact I.put .no trivial (fun _ m => absurd m fpS_no) hi
  | fr o =>
    obtain ⟨l, rfl, n, n0, ow, na⟩ := h
    exact I.put (.own o) ⟨l, rfl, n, ow, n0⟩ (fun a m => by have e := fpS_own.mp m; cases e; exact na) hi
/-- a slot is forgotten -/
theorem Stt.drop (I : Stt K B S H σ sl) (i : Nat) : Stt K B S H (σ.set i none) (sl.set i .no) := by
  refine ⟨I.s0, I.sh, I.new, I.keep, I.dom, I.lsd, by rw [List.length_set, List.length_set]; exact I.len, fun j s' e => ?_, fun j1 j2 a x1 x2 => ?_, I.tabs, I.tbk, I.snt, I.sm⟩
  · by_cases hj : j = i
    · subst hj
      have hl : j < sl.length := by
        have := (List.getElem?_eq_some_iff.mp e).1
        rwa [List.length_set] at this
      rw [List.getElem?_set_self hl] at e
      cases e
      exact ⟨none, by rw [List.getElem?_set_self (by rw [I.len]; exact hl)], trivial⟩
    · rw [List.getElem?_set_ne (Ne.symm hj)] at e
      obtain ⟨x, hx, ok⟩ := I.slot j s' e
      exact ⟨x, by rw [List.getElem?_set_ne (Ne.symm hj)]; exact hx, ok⟩
  · rcases fpAt_set x1 with ⟨h1, f1⟩ | ⟨h1, f1⟩
    · rcases fpAt_set x2 with ⟨h2, f2⟩ | ⟨h2, f2⟩
      · exact I.dis j1 j2 a f1 f2
      · exact absurd f2 fpS_no
    · exact absurd f1 fpS_no
/-- what is known of a slot is forgotten -/
theorem Stt.forget (I : Stt K B S H σ sl) (i : Nat) : Stt K B S H σ (sl.set i .no) := by
  refine ⟨I.s0, I.sh, I.new, I.keep, I.dom, I.lsd, by rw [List.length_set]; exact I.len, fun j s' e => ?_, fun j1 j2 a x1 x2 => ?_, I.tabs, I.tbk, I.snt, I.sm⟩
  · by_cases hj : j = i
    · subst hj
      have hl : j < sl.length := by
        have := (List.getElem?_eq_some_iff.mp e).1
        rwa [List.length_set] at this
      rw [List.getElem?_set_self hl] at e
      cases e
      exact ⟨_, List.getElem?_eq_getElem (by rw [I.len]; exact hl), trivial⟩
    · rw [List.getElem?_set_ne (Ne.symm hj)] at e
      exact I.slot j s' e
  · rcases fpAt_setS x1 with ⟨h1, f1⟩ | ⟨h1, _, _, f1⟩
    · rcases fpAt_setS x2 with ⟨h2, f2⟩ | ⟨h2, _, _, f2⟩
      · exact I.dis j1 j2 a f1 f2
      · exact absurd f2 fpS_no
    · exact absurd f1 fpS_no
def wipeS (sl : List Sl) : List Nat → List Sl
  | [] => sl
  | v :: vs => (wipeS sl vs).set v .no
theorem Stt.wipe (I : Stt K B S H σ sl) : ∀ vs : List Nat, Stt K B S H (L2.wipe σ vs) (wipeS sl vs)
  | [] => I
  | v :: vs => (Stt.wipe I vs).drop v
/-- what stands at one place is written; the place is the slot's i own -/
theorem Stt.write (I : Stt K B S H σ sl) {s s' : Sl} {x : Option V} {l : Addr} {u : HO} (hs : sl[i]? = some s) (hx : σ[i]? = some x) (hf : FpS s x l) (hf' : ∀ a, FpS s' x a → FpS s x a ∨ ¬ OwnAt σ sl a) (hok : SlOk K B S (upd H l u) x s') (hls : B.H0 l = none ∨ l ∈ B.ls) : Stt K B S (upd H l u) σ (sl.set i s') := by
  have hlen : i < sl.length := (List.getElem?_eq_some_iff.mp hs).1
  obtain ⟨n0, w0, ew0, nw0⟩ := I.ownAt ⟨i, s, x, hs, hx, hf⟩
  have me : FpAt σ sl i l := ⟨s, x, hs, hx, hf⟩
  refine ⟨I.s0, fun b w e => ?_, I.new, fun b w e hn ht => ?_, fun b w e => ?_, I.lsd, by rw [List.length_set]; exact I.len, fun j s2 e => ?_, fun j1 j2 a y1 y2 => ?_, tabs_upd I.tabs ew0 nw0, tbk_upd I.tbk ew0 nw0, I.snt, I.sm⟩
  · rw [upd_ne (ne_of_none e n0)]
    exact I.sh _ _ e
  · have hb : b ≠ l := fun z => by
      subst z
      rcases hls with h | h
      · rw [e] at h; cases h
      · exact hn h
    rw [upd_ne hb]
    exact I.keep b w e hn ht
  · by_cases hb : b = l
    · rw [hb]; exact ⟨u, upd_same⟩
    · obtain ⟨o2, e2⟩ := I.dom b w e
      exact ⟨o2, by rw [upd_ne hb]; exact e2⟩
  · by_cases hj : j = i
    · subst hj
      rw [List.getElem?_set_self hlen] at e
      cases e
      exact ⟨x, hx, hok⟩
    · rw [List.getElem?_set_ne (Ne.symm hj)] at e
      obtain ⟨y, hy, ok⟩ := I.slot j s2 e
      refine ⟨y, hy, ok.ext (.refl _) (fun a m => ?_) fun a m => (ok.fp m).1⟩
      exact upd_ne fun z => by
        subst z
        exact hj (I.dis j i a ⟨s2, y, e, hy, m⟩ me)
  · have tr : ∀ {j : Nat} {a : Addr}, FpAt σ (sl.set i s') j a → FpAt σ sl j a ∨ (j = i ∧ ¬ OwnAt σ sl a) := fun {j a} y => by
      rcases fpAt_setS y with ⟨_, f⟩ | ⟨h1, x', hx', f⟩
      · exact .inl f
      · rw [hx] at hx'
        cases hx'
        rcases hf' a f with h | h
        · exact .inl ⟨s, x, by rw [h1]; exact hs, by rw [h1]; exact hx, h⟩
        · exact .inr ⟨h1, h⟩
    rcases tr y1 with f1 | ⟨h1, z1⟩
    · rcases tr y2 with f2 | ⟨h2, z2⟩
      · exact I.dis j1 j2 a f1 f2
      · exact absurd ⟨_, f1⟩ z2
    · rcases tr y2 with f2 | ⟨h2, z2⟩
      · exact absurd ⟨_, f2⟩ z1
      · rw [h1, h2]
/-- an own object is changed -/
theorem Stt.mutate (I : Stt K B S H σ sl) {s s' : Sl} {o o' : Ow} {l : Addr} {u : HO} (hs : sl[i]? = some s) (ho : s.ow = some o) (ho' : s'.ow = some o') (hk : (∀ o, s = .own o → s' = .own o') ∧ ∀ j o, s = .io j o → s' = .io j o')
    (hl : σ[i]? = some (some (.ref l))) (hu : OwOk K S (upd H l u) l o') : Stt K B S (upd H l u) σ (sl.set i s') := by
  obtain ⟨x0, hx0, ok0⟩ := I.slot i s hs
  rw [hl] at hx0
  cases hx0
  refine I.write hs hl (.inl ⟨o, ho, rfl⟩) (fun a f => .inl ?_) ?_ ?_
  · rcases f with ⟨o2, h1, h2⟩ | ⟨d, fp, h1, h2⟩
    · exact .inl ⟨o, ho, h2⟩
    · rw [h1] at ho'; cases ho'
  · cases s with
    | own o1 =>
      obtain ⟨_, e1, n, _, e2⟩ := ok0
      cases e1
      rw [hk.1 o1 rfl]
      exact ⟨l, rfl, n, hu, e2⟩
    | io j o1 =>
      obtain ⟨_, e1, n, _, e2⟩ := ok0
      cases e1
      rw [hk.2 j o1 rfl]
      exact ⟨l, rfl, n, hu, e2⟩
    | no => cases ho
    | val d => cases ho
    | raw v => cases ho
    | prv d fp => cases ho
  · cases s with
    | own o1 =>
      obtain ⟨_, e1, _, _, e2⟩ := ok0
      cases e1
      exact .inl e2
    | io j o1 =>
      obtain ⟨_, e1, _, _, e2⟩ := ok0
      cases e1
      exact .inr (List.mem_of_getElem? e2)
    | no => cases ho
    | val d => cases ho
    | raw v => cases ho
    | prv d fp => cases ho
/-- an object that no slot holds is changed -/
theorem Stt.side (I : Stt K B S H σ sl) {l : Addr} {u o : HO} (n : S l = none) (n0 : B.H0 l = none) (na : ¬ OwnAt σ sl l) (ho : H l = some o) (nh : ¬ Hard o) : Stt K B S (upd H l u) σ sl := by
  refine ⟨I.s0, fun b w e => ?_, I.new, fun b w e hn ht => ?_, fun b w e => ?_, I.lsd, I.len, fun j s2 e => ?_, I.dis, tabs_upd I.tabs ho nh, tbk_upd I.tbk ho nh, I.snt, I.sm⟩
  · rw [upd_ne (ne_of_none e n)]
    exact I.sh _ _ e
  · rw [upd_ne (ne_of_none e n0)]
    exact I.keep b w e hn ht
  · obtain ⟨o2, e2⟩ := I.dom b w e
    exact ⟨o2, by rw [upd_ne (ne_of_none e n0)]; exact e2⟩
  · obtain ⟨x, hx, ok⟩ := I.slot j s2 e
    refine ⟨x, hx, ok.ext (.refl _) (fun a m => upd_ne fun z => na ⟨j, s2, x, e, hx, by rw [← z]; exact m⟩) fun a m => (ok.fp m).1⟩
theorem lst_soft {xs : List V} : ¬ Hard (.lst xs) := by rintro (⟨ps, z⟩ | ⟨f, z⟩) <;> cases z
theorem dK_soft {xs : List (Key × V)} : ¬ Hard (.dK xs) := by rintro (⟨ps, z⟩ | ⟨f, z⟩) <;> cases z
theorem dT_soft {xs : List (List Key × V)} : ¬ Hard (.dT xs) := by rintro (⟨ps, z⟩ | ⟨f, z⟩) <;> cases z
theorem tup_soft {xs : List V} : ¬ Hard (.tup xs) := by rintro (⟨ps, z⟩ | ⟨f, z⟩) <;> cases z
end

/-! ## statements -/
/-- an exception: its class's name, its field -/
structure Exn where
  cls : Str
  fld : Option (Str × PyData)
/-- cls, dx are the class and the dict of the exception x -/
def ExnOk (K : PySem.W.Frag) (mg : Str → Option Value) (S : Hp) (cls : Value) (dx : Option Addr) (x : Exn) : Prop :=
  ∃ C : Addr, mg x.cls = some (.ref C) ∧ cls = .ref C ∧ match x.fld with
    | none => dx = none
    | some (f, d) => ∃ (a : Addr) (v : V), dx = some a ∧ S a = some (.xd [(f, v)]) ∧ Tr K S v d
theorem ExnOk.mono {K : PySem.W.Frag} {mg : Str → Option Value} {S S' : Hp} {cls : Value} {dx : Option Addr} {x : Exn} (s : Same S S') (h : ExnOk K mg S cls dx x) : ExnOk K mg S' cls dx x := by
  obtain ⟨C, h1, h2, h3⟩ := h
  refine ⟨C, h1, h2, ?_⟩
  cases e : x.fld with
  | none => rw [e] at h3; exact h3
  | some p =>
    obtain ⟨f, d⟩ := p
    rw [e] at h3
    obtain ⟨a, v, h4, h5, h6⟩ := h3
    exact ⟨a, v, h4, s _ _ h5, h6.mono s⟩
structure Rt where
  nx : List Sl → Prop
  rt : Kd → List Sl → Prop
  bk : List Sl → Prop := fun _ => False
  ct : List Sl → Prop := fun _ => False
  ex : Exn → List Sl → Prop := fun _ _ => False
structure EndOk (c : CxD) (B : Bs) (S : Hp) (D : Ends) (R : Rt) : Prop where
  nx : ∀ S' H' σ' sl', Same S S' → Stt c.K B S' H' σ' sl' → R.nx sl' → D.nx σ' H'
  rt : ∀ S' H' σ' sl' v k, Same S S' → Stt c.K B S' H' σ' sl' → KdOk c.K B σ' sl' S' H' v k → R.rt k sl' → D.rt v H'
  bk : ∀ S' H' σ' sl', Same S S' → Stt c.K B S' H' σ' sl' → R.bk sl' → D.bk σ' H'
  ct : ∀ S' H' σ' sl', Same S S' → Stt c.K B S' H' σ' sl' → R.ct sl' → D.ct σ' H'
  ex : ∀ S' H' σ' sl' cls dx x, Same S S' → Stt c.K B S' H' σ' sl' → ExnOk c.K c.mg S' cls dx x → R.ex x sl' → c.W cls dx σ' H'
theorem EndOk.up {c : CxD} {B : Bs} {S S' : Hp} {D : Ends} {R : Rt} (h : EndOk c B S D R) (s : Same S S') : EndOk c B S' D R :=
  ⟨fun S1 H1 σ1 sl1 a => h.nx S1 H1 σ1 sl1 (s.trans a), fun S1 H1 σ1 sl1 v k a => h.rt S1 H1 σ1 sl1 v k (s.trans a), fun S1 H1 σ1 sl1 a => h.bk S1 H1 σ1 sl1 (s.trans a), fun S1 H1 σ1 sl1 a => h.ct S1 H1 σ1 sl1 (s.trans a), fun S1 H1 σ1 sl1 cls dx x a => h.ex S1 H1 σ1 sl1 cls dx x (s.trans a)⟩
def SemB (c : CxD) (B : Bs) (t : TS) (sl : List Sl) (R : Rt) : Prop := ∀ S H σ, Stt c.K B S H σ sl → ∀ D, EndOk c B S D R → t D σ H
def GO (c : CxD) (B : Bs) (ss : List Stmt) (sl : List Sl) (R : Rt) : Prop := ∃ t, (∀ X, InCx c X → PSs X ss t) ∧ SemB c B t sl R
def G1 (c : CxD) (B : Bs) (s : Stmt) (sl : List Sl) (R : Rt) : Prop := ∃ t, (∀ X, InCx c X → PS X s t) ∧ SemB c B t sl R
section
variable {c : CxD} {B : Bs} {e a b : Expr} {s : Stmt} {ss rest ba bb : List Stmt} {sl sl1 sl2 sl3 : List Sl} {p q r : Bool} {k k1 k2 : Kd} {pos p1 p2 p3 : Pos} {t u : Bool} {R : Rt} {M : List Sl → Prop}
theorem GO.rr (h : GO c B ss sl R) : SemB c B (rB c ss) sl R := fun S H σ I D q => by
  obtain ⟨t, ht, hs⟩ := h
  exact ⟨t, ht, hs S H σ I D q⟩
theorem go_nil (h : R.nx sl) : GO c B [] sl R := ⟨tNext, fun _ _ => pss_nil, fun S H σ I D q => q.nx S H σ sl (.refl _) I h⟩
theorem go_cons (h1 : G1 c B s sl { R with nx := M }) (h2 : ∀ s1, M s1 → GO c B rest s1 R) : GO c B (s :: rest) sl R := by
  obtain ⟨t, ht, hs⟩ := h1
  refine ⟨tSeq t (rB c rest), fun X hX => pss_cons (ht X hX) (ps_rB hX), fun S H σ I D q => ?_⟩
  exact hs S H σ I _ ⟨fun S1 H1 σ1 s1 a I1 m => (h2 s1 m).rr S1 H1 σ1 I1 D (q.up a), q.rt, q.bk, q.ct, q.ex⟩
/-- the last statement -/
theorem go_last (h1 : G1 c B s sl R) : GO c B [s] sl R := by
  obtain ⟨t, ht, hs⟩ := h1
  exact ⟨t, fun X hX => pss_one (ht X hX), hs⟩
/-- from one known state to one known state -/
theorem go_to (h1 : G1 c B s sl { R with nx := fun x => x = sl1 }) (h2 : GO c B rest sl1 R) : GO c B (s :: rest) sl R := go_cons h1 fun _ e => e ▸ h2
theorem g1_ret (h : EV c B e sl p k sl1) (hr : R.rt k sl1) : G1 c B (.Return (some e) pos) sl R := by
  obtain ⟨te, h, hs⟩ := h
  exact ⟨tRet te, fun X hX => ps_ret (h X hX), fun S H σ I D q => hs S H σ I _ fun v S1 H1 I1 a1 x1 _ => q.rt S1 H1 σ sl1 v k a1.s I1 x1 hr⟩
theorem go_ret (h : EV c B e sl p k sl1) (hr : R.rt k sl1) : GO c B (.Return (some e) pos :: rest) sl R := by
  obtain ⟨t, ht, hs⟩ := g1_ret (pos := pos) (R := { R with nx := fun _ => False }) h hr
  exact go_cons (M := fun _ => False) ⟨t, ht, hs⟩ fun _ h => h.elim
theorem g1_expr (h : EV c B e sl p k sl1) (hr : R.nx sl1) (hsw : ∀ env, swapsWith e none pos.line env = pure false := by intro _; rfl) : G1 c B (.Expr e pos) sl R := by
  obtain ⟨te, h, hs⟩ := h
  exact ⟨tDrop te, fun X hX => ps_expr (h X hX) (hsw _), fun S H σ I D q => hs S H σ I _ fun v S1 H1 I1 a1 x1 _ => q.nx S1 H1 σ sl1 a1.s I1 hr⟩
theorem go_expr (h : EV c B e sl p k sl1) (h2 : GO c B rest sl1 R) (hsw : ∀ env, swapsWith e none pos.line env = pure false := by intro _; rfl) : GO c B (.Expr e pos :: rest) sl R := go_to (g1_expr h rfl hsw) h2
theorem g1_pass (hr : R.nx sl) : G1 c B (.Pass pos) sl R := ⟨tNext, fun X hX => ps_pass, fun S H σ I D q => q.nx S H σ sl (.refl _) I hr⟩
theorem g1_break (hr : R.bk sl) : G1 c B (.Break pos) sl R := ⟨tBreak, fun X hX => ps_break, fun S H σ I D q => q.bk S H σ sl (.refl _) I hr⟩
theorem g1_cont (hr : R.ct sl) : G1 c B (.Continue pos) sl R := ⟨tCont, fun X hX => ps_continue, fun S H σ I D q => q.ct S H σ sl (.refl _) I hr⟩
theorem g1_if (h : TV c B e sl p t sl1) (h1 : t = true → GO c B ba sl1 R) (h2 : t = false → GO c B bb sl1 R) : G1 c B (.If e ba bb pos) sl R := by
  obtain ⟨te, h, hs⟩ := h
  refine ⟨tIfS te (rB c ba) (rB c bb), fun X hX => ps_if (h X hX) (ps_rB hX) (ps_rB hX), fun S H σ I D q => ?_⟩
  refine hs S H σ I _ fun S1 H1 I1 a1 => ?_
  cases t with
  | true =>
    rw [if_pos rfl]
    exact (h1 rfl).rr S1 H1 σ I1 D (q.up a1.s)
  | false =>
    rw [if_neg Bool.false_ne_true]
    exact (h2 rfl).rr S1 H1 σ I1 D (q.up a1.s)
/-- an if whose body leaves -/
theorem go_leave (h : TV c B e sl p t sl1) (h1 : t = true → GO c B ba sl1 { R with nx := fun _ => False }) (h2 : t = false → GO c B rest sl1 R) : GO c B (.If e ba [] pos :: rest) sl R := by
  cases t with
  | true => exact go_cons (M := fun _ => False) (g1_if h (fun e => h1 e) fun e => nomatch e) fun _ z => z.elim
  | false => exact go_to (g1_if h (fun e => nomatch e) fun _ => go_nil rfl) (h2 rfl)
/-- an if whose test is known not to hold -/
theorem go_skip (h : TV c B e sl p t sl1) (ht : t = false) (h2 : GO c B rest sl1 R) : GO c B (.If e ba [] pos :: rest) sl R := go_leave h (fun e => by rw [ht] at e; cases e) fun _ => h2
theorem InCx.loc {X : Cx} (h : InCx c X) {x : Str} (hv : c.sc.names.lookup x = some .local ∨ c.sc.names.lookup x = some .cell) : Loc X.env.scope x ∧ (X.fn x = true ∨ X.env.scope.names.lookup x = some .local) := by
  rcases hv with hv | hv
  · exact ⟨.inl (h.l x hv), .inr (h.l x hv)⟩
  · exact ⟨.inr (h.fn x hv).1, .inl (h.fn x hv).2⟩
theorem g1_set (i : Nat) {x : Str} (h : EV c B e sl p k sl1) (hr : R.nx (sl1.set i k.asS)) (hi : (sl1[i]?).isSome = true := by rfl) (hN : c.N[i]? = some x := by rfl) (nd : c.N.Nodup := by assumption) (hx : c.sc.names.lookup x = some .local ∨ c.sc.names.lookup x = some .cell := by first | exact .inl rfl | exact .inr rfl)
    (hsw : ∀ X, InCx c X → swapsWith e (some (.Name x p1)) pos.line X.env = pure false := by intro _ _; rfl) : G1 c B (.Assign [.Name x p1] e pos) sl R := by
  obtain ⟨te, h, hs⟩ := h
  refine ⟨tAsg te (gName i), fun X hX => ps_set (by rw [hX.hN]; exact nd) (by rw [hX.hN]; exact hN) (hX.loc hx).1 (h X hX) (hsw X hX) (hX.loc hx).2, fun S H σ I D q => hs S H σ I _ fun v S1 H1 I1 a1 x1 _ => ?_⟩
  exact q.nx S1 H1 _ _ a1.s (I1.set x1 hi) hr
theorem go_set (i : Nat) {x : Str} (h : EV c B e sl p k sl1) (h2 : GO c B rest (sl1.set i k.asS) R) (hi : (sl1[i]?).isSome = true := by rfl) (hN : c.N[i]? = some x := by rfl) (nd : c.N.Nodup := by assumption) (hx : c.sc.names.lookup x = some .local ∨ c.sc.names.lookup x = some .cell := by first | exact .inl rfl | exact .inr rfl)
    (hsw : ∀ X, InCx c X → swapsWith e (some (.Name x p1)) pos.line X.env = pure false := by intro _ _; rfl) : GO c B (.Assign [.Name x p1] e pos :: rest) sl R := go_to (g1_set i h rfl hi hN nd hx hsw) h2
/-- n += e, whole numbers -/
theorem go_augI (i : Nat) {x : Str} {m n : Int} (hs : sl[i]? = some (.val (.int m)) := by rfl) (h : EV c B e sl p (.st (.int n)) sl1) (h2 : GO c B rest (sl1.set i (.val (.int (m + n)))) R) (hi : (sl1[i]?).isSome = true := by rfl) (hN : c.N[i]? = some x := by rfl) (nd : c.N.Nodup := by assumption) (hx : c.sc.names.lookup x = some .local ∨ c.sc.names.lookup x = some .cell := by first | exact .inl rfl | exact .inr rfl) :
    GO c B (.AugAssign (.Name x p1) .Add e pos :: rest) sl R := by
  obtain ⟨te, h, hh⟩ := h
  refine go_to ⟨tAug i te _, fun X hX => ps_aug (by rw [hX.hN]; exact nd) (by rw [hX.hN]; exact hN) (hX.loc hx).1 (h X hX) ip_add (hX.loc hx).2, fun S H σ I D q => ?_⟩ h2
  obtain ⟨v, hv, tv⟩ := I.val hs
  refine ⟨v, hv, hh S H σ I _ fun w S1 H1 I1 a1 x1 _ => ?_⟩
  refine ⟨m, n, tr_int tv, tr_int x1, ?_⟩
  exact q.nx S1 H1 _ _ a1.s (I1.set (k := .st (.int (m + n))) (.int _) hi) rfl
theorem go_augSub (i : Nat) {x : Str} {m n : Int} (hs : sl[i]? = some (.val (.int m)) := by rfl) (h : EV c B e sl p (.st (.int n)) sl1) (h2 : GO c B rest (sl1.set i (.val (.int (m - n)))) R) (hi : (sl1[i]?).isSome = true := by rfl) (hN : c.N[i]? = some x := by rfl) (nd : c.N.Nodup := by assumption) (hx : c.sc.names.lookup x = some .local ∨ c.sc.names.lookup x = some .cell := by first | exact .inl rfl | exact .inr rfl) :
    GO c B (.AugAssign (.Name x p1) .Sub e pos :: rest) sl R := by
  obtain ⟨te, h, hh⟩ := h
  refine go_to ⟨tAug i te _, fun X hX => ps_aug (by rw [hX.hN]; exact nd) (by rw [hX.hN]; exact hN) (hX.loc hx).1 (h X hX) ip_sub (hX.loc hx).2, fun S H σ I D q => ?_⟩ h2
  obtain ⟨v, hv, tv⟩ := I.val hs
  refine ⟨v, hv, hh S H σ I _ fun w S1 H1 I1 a1 x1 _ => ?_⟩
  refine ⟨m, n, tr_int tv, tr_int x1, ?_⟩
  exact q.nx S1 H1 _ _ a1.s (I1.set (k := .st (.int (m - n))) (.int _) hi) rfl
/-- while, by a word and a measure -/
theorem g1_while (J : Nat → List Sl → Prop) (m0 : Nat) (h0 : J m0 sl) (hs : ∀ m s1, J m s1 → ∃ p b s2, TV c B e s1 p b s2 ∧ (b = true → GO c B ba s2 ⟨fun s => ∃ m', m' < m ∧ J m' s, R.rt, R.nx, fun s => ∃ m', m' < m ∧ J m' s, R.ex⟩) ∧ (b = false → R.nx s2)) :
    G1 c B (.While e ba [] pos) sl R := by
  refine ⟨tWhile (rT c e) (rB c ba), fun X hX => ps_while hX.po (pt_rT hX) (ps_rB hX), fun S H σ I D q => ?_⟩
  refine ⟨fun m σ H => ∃ S1 s1, Same S S1 ∧ Stt c.K B S1 H σ s1 ∧ J m s1, ⟨m0, S, sl, .refl _, I, h0⟩, ?_⟩
  rintro m σ1 H1 ⟨S1, s1, a1, I1, j1⟩
  obtain ⟨p, b, s2, ht, hb1, hb2⟩ := hs m s1 j1
  refine ht.rr S1 H1 σ1 I1 _ fun S2 H2 I2 a2 => ?_
  cases b with
  | true =>
    rw [if_pos rfl]
    refine ⟨fun σ' H' => ∃ m', m' < m ∧ ∃ S3 s3, Same S S3 ∧ Stt c.K B S3 H' σ' s3 ∧ J m' s3, fun σ' H' h => h, ?_⟩
    refine (hb1 rfl).rr S2 H2 σ1 I2 _ ⟨fun S3 H3 σ3 s3 a3 I3 ⟨m', hm, j3⟩ => ⟨m', hm, S3, s3, (a1.trans a2.s).trans a3, I3, j3⟩, fun S3 H3 σ3 s3 v k a3 I3 x3 h3 => q.rt S3 H3 σ3 s3 v k ((a1.trans a2.s).trans a3) I3 x3 h3,
      fun S3 H3 σ3 s3 a3 I3 h3 => q.nx S3 H3 σ3 s3 ((a1.trans a2.s).trans a3) I3 h3, fun S3 H3 σ3 s3 a3 I3 ⟨m', hm, j3⟩ => ⟨m', hm, S3, s3, (a1.trans a2.s).trans a3, I3, j3⟩,
      fun S3 H3 σ3 s3 cls dx x a3 I3 z h => q.ex S3 H3 σ3 s3 cls dx x ((a1.trans a2.s).trans a3) I3 z h⟩
  | false =>
    rw [if_neg Bool.false_ne_true]
    exact q.nx S2 H2 σ1 s2 (a1.trans a2.s) I2 (hb2 rfl)
end

/-! ## what a loop walks -/
def ItOk (K : PySem.W.Frag) (J : It) (S G : Hp) (ds : List PyData) : Prop :=
  ∀ S1 H1, Same S S1 → Same S1 H1 → Sam G H1 → ∀ i : Nat, (∀ d, ds[i]? = some d → J.go i H1 ∧ ∀ x H2, J.yld i H1 x H2 → ∃ S2, Same S1 S2 ∧ Same S2 H2 ∧ Same H1 H2 ∧ (∀ a o, S2 a = some o → S1 a = none → H1 a = none) ∧ (NoT S1 → NoT S2) ∧ Tr K S2 x d) ∧ (ds.length ≤ i → J.stop i H1)
/-- z: the walked thing does not change any more -/
def EI (c : CxD) (B : Bs) (tg e : Expr) (sl : List Sl) (p : Bool) (ds : List PyData) (z : Bool) (sl' : List Sl) : Prop :=
  ∃ wi, (∀ X, InCx c X → PI X tg e wi) ∧ ∀ S H σ, Stt c.K B S H σ sl → ∀ R : It → Hp → Prop, (∀ J S' H', Stt c.K B S' H' σ sl' → Adv σ sl S H sl' S' H' p → ItOk c.K J S' (if z then S' else H') ds → R J H') → wi σ H R
section
variable {c : CxD} {B : Bs} {tg e a b : Expr} {sl sl1 sl2 sl3 : List Sl} {p q r z : Bool} {k k1 k2 : Kd} {pos p1 p2 p3 : Pos} {ds es : List PyData} {i j : Int}
theorem itl_ok {K : PySem.W.Frag} {S G : Hp} {l : Addr} {xs : List V} (h : SqL K G l xs) (t : Trs K S xs ds) : ItOk K (Itl K l) S G ds := fun S1 H1 s1 s2 g1 i => by
  have hq : SqL K H1 l xs := g1.seq h
  refine ⟨fun d hd => ?_, fun hl => ⟨xs, hq, by rw [t.len]; exact hl⟩⟩
  obtain ⟨v, hv, tv⟩ := t.get hd
  refine ⟨⟨xs, v, hq, hv⟩, fun x H2 y => ?_⟩
  obtain ⟨rfl, y⟩ := y
  have e := y xs hq
  rw [hv] at e
  cases e
  exact ⟨S1, .refl _, s2, .refl _, fun a o h1 h2 => (by rw [h1] at h2; cases h2), id, tv.mono s1⟩
theorem ei_list (h : EV c B e sl p (.st (.list ds)) sl1) : EI c B tg e sl p ds true sl1 := by
  obtain ⟨te, h, hs⟩ := h
  refine ⟨iList c.K te, fun X hX => by have := pi_list (tg := tg) (h X hX); rw [hX.hK] at this; exact this, fun S H σ I R q => hs S H σ I _ fun v S1 H1 I1 a1 x1 _ => ?_⟩
  obtain ⟨l, xs, rfl, hq, t⟩ := tr_lst x1
  exact ⟨l, rfl, ⟨xs, I1.sh.seq hq⟩, q _ S1 H1 I1 a1 (itl_ok (by rw [if_pos rfl]; exact hq) t)⟩
theorem ei_ls (h : EV c B e sl p k sl1) (hl : LsK k ds := by first | exact .st | exact .ls | exact .fr) : EI c B tg e sl p ds false sl1 := by
  obtain ⟨te, h, hs⟩ := h
  refine ⟨iList c.K te, fun X hX => by have := pi_list (tg := tg) (h X hX); rw [hX.hK] at this; exact this, fun S H σ I R q => hs S H σ I _ fun v S1 H1 I1 a1 x1 _ => ?_⟩
  obtain ⟨l, xs, rfl, hq, t⟩ := hl.rd I1 x1
  exact ⟨l, rfl, ⟨xs, hq⟩, q _ S1 H1 I1 a1 (itl_ok (by rw [if_neg Bool.false_ne_true]; exact hq) t)⟩
/-- lo, lo + 1, .. -/
def upI (lo : Int) (n : Nat) : List PyData := (List.range n).map fun (m : Nat) => PyData.int (lo + (m : Int))
theorem upI_get {lo : Int} {n m : Nat} (h : m < n) : (upI lo n)[m]? = some (.int (lo + m)) := by
  unfold upI
  rw [List.getElem?_map, List.getElem?_range h]
  rfl
theorem upI_len (lo : Int) (n : Nat) : (upI lo n).length = n := by unfold upI; rw [List.length_map, List.length_range]
theorem itr_ok {K : PySem.W.Frag} {S G : Hp} {lo : Int} {n : Nat} : ItOk K (Itr lo n) S G (upI lo n) := fun S1 H1 s1 s2 g1 i => by
  refine ⟨fun d hd => ?_, fun hl => by rw [upI_len] at hl; exact hl⟩
  have hi : i < n := by
    have := (List.getElem?_eq_some_iff.mp hd).1
    rwa [upI_len] at this
  rw [upI_get hi] at hd
  cases hd
  refine ⟨hi, fun x H2 y => ?_⟩
  obtain ⟨rfl, rfl⟩ := y
  exact ⟨S1, .refl _, s2, .refl _, fun a o h1 h2 => (by rw [h1] at h2; cases h2), id, .int _⟩
theorem ei_range1 {n : Int} (h : EV c B a sl p (.st (.int n)) sl1) (hn : -(2 ^ 62) ≤ n ∧ n < 2 ^ 62) (hm : c.mg "range" = none) (hg : c.sc.names.lookup ("range" : Str) = some .globalImplicit := by rfl) (he : ∀ env, starEach [a] env = (false, eval a env) :: starEach [] env := by intro env; rfl) :
    EI c B tg (.Call (.Name "range" p1) [a] [] pos) sl p (upI 0 n.toNat) z sl1 := by
  have hh := av_cons h (av_nil (sl := sl1)) rfl he
  obtain ⟨ta, g, hs⟩ := hh
  refine ⟨iRng1 ta, fun X hX => pi_range1 (hX.g _ hg) (by rw [hX.hm]; exact hm) (g X hX) (he _), fun S H σ I R q => hs S H σ I _ fun vs S1 H1 I1 a1 x1 => ?_⟩
  obtain ⟨v, rfl, hk⟩ := one_arg x1
  exact ⟨n, by rw [tr_int hk], hn.1, hn.2, q _ S1 H1 I1 (a1.weak fun e => by rw [e]; rfl) itr_ok⟩
theorem ei_range2 {m n : Int} (h : EV c B a sl p (.st (.int m)) sl1) (h' : EV c B b sl1 q (.st (.int n)) sl2) (hn : -(2 ^ 62) ≤ m ∧ m < 2 ^ 62 ∧ -(2 ^ 62) ≤ n ∧ n < 2 ^ 62) (hm : c.mg "range" = none) (hg : c.sc.names.lookup ("range" : Str) = some .globalImplicit := by rfl)
    (he : ∀ env, starEach [a, b] env = (false, eval a env) :: starEach [b] env := by intro env; rfl) (he2 : ∀ env, starEach [b] env = (false, eval b env) :: starEach [] env := by intro env; rfl) :
    EI c B tg (.Call (.Name "range" p1) [a, b] [] pos) sl (p && q) (upI m (n - m).toNat) z sl2 := by
  have hh := av_cons h (av_cons h' (av_nil (sl := sl2)) rfl he2) (by simp [Kd.firm]) he
  obtain ⟨ta, g, hs⟩ := hh
  refine ⟨iRng2 ta, fun X hX => pi_range2 (hX.g _ hg) (by rw [hX.hm]; exact hm) (g X hX) (by rw [he, he2]; rfl) (by rw [he2]; rfl), fun S H σ I R q' => hs S H σ I _ fun vs S1 H1 I1 a1 x1 => ?_⟩
  obtain ⟨v, w, rfl, hk, hk2⟩ := two_arg x1
  exact ⟨m, n, by rw [tr_int hk, tr_int hk2], hn, q' _ S1 H1 I1 (a1.weak fun e => by rw [Bool.and_true]; exact e) itr_ok⟩
/-- pairs of a number and an item -/
def numbered (ds : List PyData) : List PyData := ds.zipIdx.map fun x => .tuple [.int (x.2 : Nat), x.1]
theorem numbered_get {n : Nat} {d : PyData} (h : ds[n]? = some d) : (numbered ds)[n]? = some (.tuple [.int (n : Nat), d]) := by
  unfold numbered
  rw [List.getElem?_map, List.getElem?_zipIdx, h]
  simp
theorem numbered_len : (numbered ds).length = ds.length := by unfold numbered; simp
theorem ite_ok {K : PySem.W.Frag} {S G : Hp} {l : Addr} {xs : List V} (h : SqL K G l xs) (t : Trs K S xs ds) : ItOk K (Ite K l) S G (numbered ds) := fun S1 H1 s1 s2 g1 i => by
  have hq : SqL K H1 l xs := g1.seq h
  refine ⟨fun d hd => ?_, fun hl => ⟨xs, hq, by rw [numbered_len] at hl; rw [t.len]; exact hl⟩⟩
  have hi : i < ds.length := by
    have := (List.getElem?_eq_some_iff.mp hd).1
    rwa [numbered_len] at this
  rw [numbered_get (List.getElem?_eq_getElem hi)] at hd
  cases hd
  obtain ⟨v, hv, tv⟩ := t.get (List.getElem?_eq_getElem hi)
  refine ⟨⟨xs, v, hq, hv⟩, fun x H2 y => ?_⟩
  obtain ⟨T, y, rfl, nT, rfl, hy⟩ := y
  have e := hy xs hq
  rw [hv] at e
  cases e
  have nS : S1 T = none := s2.free nT
  have ss : Same S1 (upd S1 T (.tup [.int (i : Nat), v])) := same_new nS
  refine ⟨_, ss, fun b o e => ?_, same_new nT, fun b o h1 h2 => ?_, fun nt => noT_upd nt (fun _ z => nomatch z), .tup (.inl (.inl upd_same)) (.cons (.int _) (.cons (tv.mono (s1.trans ss)) .nil))⟩
  · by_cases eb : b = T
    · rw [eb, upd_same] at e ⊢
      exact e
    · rw [upd_ne eb] at e ⊢
      exact s2 _ _ e
  · by_cases eb : b = T
    · rw [eb]; exact nT
    · rw [upd_ne eb, h2] at h1
      cases h1
theorem ei_enum {es : List Expr} {kk : Nat} {tpos : Pos} (h : EV c B a sl p k sl1) (hm : c.mg "enumerate" = none) (hl : LsK k ds := by first | exact .st | exact .ls | exact .fr) (hz : z = true → k = .st (.list ds) := by intro h; first | rfl | cases h)
    (hg : c.sc.names.lookup ("enumerate" : Str) = some .globalImplicit := by rfl) (he : ∀ env, starEach [a] env = (false, eval a env) :: starEach [] env := by intro env; rfl) :
    EI c B (.Tuple es kk tpos) (.Call (.Name "enumerate" p1) [a] [] pos) sl p (numbered ds) z sl1 := by
  obtain ⟨ta, g, hs⟩ := av_cons h (av_nil (sl := sl1)) rfl he
  refine ⟨iEnum c.K ta, fun X hX => by have := pi_enum (pos := pos) (p := p1) (elts := es) (kk := kk) (tpos := tpos) (hX.g _ hg) (by rw [hX.hm]; exact hm) (g X hX) (he _); rw [hX.hK] at this; exact this, fun S H σ I R q => hs S H σ I _ fun vs S1 H1 I1 a1 x1 => ?_⟩
  obtain ⟨v, rfl, hk⟩ := one_arg x1
  obtain ⟨l, xs, rfl, hq, t⟩ := hl.rd I1 hk
  refine ⟨l, xs, rfl, hq, q _ S1 H1 I1 (a1.weak fun e => by rw [e]; rfl) ?_⟩
  cases z with
  | false => exact ite_ok (by rw [if_neg Bool.false_ne_true]; exact hq) t
  | true =>
    cases hz rfl
    obtain ⟨l', xs', e', hq', t'⟩ := tr_lst hk
    cases e'
    exact ite_ok (by rw [if_pos rfl]; exact hq') t'
end

/-! ## targets -/
/-- the tree d goes to the target: js are the slots that are written -/
def GT (c : CxD) (B : Bs) (tg : Expr) (d : PyData) (js : List Nat) (sl sl' : List Sl) : Prop :=
  ∃ g : TG, (∀ X, InCx c X → PG X tg g) ∧ ∀ S H σ v, Stt c.K B S H σ sl → Tr c.K S v d → ∀ Q : L2.St → Hp → Prop, (∀ σ', Stt c.K B S H σ' sl' → σ'.length = σ.length → (∀ i, i ∉ js → σ'[i]? = σ[i]?) → Q σ' H) → g v σ H Q
def GTs (c : CxD) (B : Bs) (tgs : List Expr) (ds : List PyData) (js : List Nat) (sl sl' : List Sl) : Prop :=
  ∃ g : TGs, (∀ X, InCx c X → PGs X tgs g) ∧ ∀ S H σ vs, Stt c.K B S H σ sl → Trs c.K S vs ds → ∀ Q : L2.St → Hp → Prop, (∀ σ', Stt c.K B S H σ' sl' → σ'.length = σ.length → (∀ i, i ∉ js → σ'[i]? = σ[i]?) → Q σ' H) → g vs σ H Q
section
variable {c : CxD} {B : Bs} {tg e a b : Expr} {sl sl1 sl2 sl3 : List Sl} {pos : Pos} {d : PyData} {ds : List PyData} {js js2 : List Nat} {tgs : List Expr}
theorem gt_name (i : Nat) {x : Str} (hi : (sl[i]?).isSome = true := by rfl) (hN : c.N[i]? = some x := by rfl) (nd : c.N.Nodup := by assumption) (hx : c.sc.names.lookup x = some .local ∨ c.sc.names.lookup x = some .cell := by first | exact .inl rfl | exact .inr rfl) : GT c B (.Name x pos) d [i] sl (sl.set i (.val d)) :=
  ⟨gName i, fun X hX => pg_name (by rw [hX.hN]; exact nd) (by rw [hX.hN]; exact hN) (hX.loc hx).1 (hX.loc hx).2, fun S H σ v I t Q q => q _ (I.set (k := .st d) t hi) (by rw [List.length_set]) fun j hj => by
    rw [List.getElem?_set_ne]
    intro e
    exact hj (by rw [e]; exact List.mem_singleton.mpr rfl)⟩
theorem gts_nil : GTs c B [] [] [] sl sl := ⟨gNil, fun _ _ => pgs_nil, fun S H σ vs I t Q q => by cases t; exact ⟨rfl, q σ I rfl fun _ _ => rfl⟩⟩
theorem gts_cons (h1 : GT c B tg d js sl sl1) (h2 : GTs c B tgs ds js2 sl1 sl2) (hs : ∀ env, (assignEach (tg :: tgs) env).map (·.2) = assign tg env :: (assignEach tgs env).map (·.2) := by intro env; rfl) : GTs c B (tg :: tgs) (d :: ds) (js ++ js2) sl sl2 := by
  obtain ⟨g1, p1, s1⟩ := h1
  obtain ⟨g2, p2, s2⟩ := h2
  refine ⟨gCons g1 g2, fun X hX => pgs_cons (p1 X hX) (p2 X hX) (hs _), fun S H σ vs I t Q q => ?_⟩
  cases t with
  | cons h t =>
    refine ⟨_, _, rfl, s1 S H σ _ I h _ fun σ1 I1 l1 k1 => s2 S H σ1 _ I1 t Q fun σ2 I2 l2 k2 => q σ2 I2 (l2.trans l1) fun i hi => ?_⟩
    exact (k2 i fun z => hi (List.mem_append_right _ z)).trans (k1 i fun z => hi (List.mem_append_left _ z))
theorem gt_tup {kk : Nat} (h : GTs c B tgs ds js sl sl1) (hn : ∀ env, (assignEach tgs env).length = ds.length := by intro env; rfl) (hst : ∀ env, (assignEach tgs env).findIdx? (·.1) = none := by intro env; rfl) : GT c B (.Tuple tgs kk pos) (.tuple ds) js sl sl1 := by
  obtain ⟨g, pp, s⟩ := h
  refine ⟨gTup c.K ds.length g, fun X hX => by have := pg_tup (pos := pos) (k := kk) hX.calm (pp X hX) (hn _) (hst _); rw [hX.hK] at this; exact this, fun S H σ v I t Q q => ?_⟩
  obtain ⟨l, xs, rfl, hq, t⟩ := tr_tup t
  exact ⟨l, xs, rfl, Sam.sqt (same_sam I.sh) hq, t.len, s S H σ xs I t Q q⟩
/-- a, b = e -/
theorem g1_asg {R : Rt} {p : Bool} {p1 : Pos} (he : EV c B e sl p (.st d) sl1) (hg : GT c B tg d js sl1 sl2) (hr : R.nx sl2) (hs : ∀ env, swapsWithSole [tg] e pos.line env = pure false := by intro _; rfl) (hw : ∀ env, swappedStores [tg] e env = pure none := by intro _; rfl)
    (h1 : ∀ env, (assignEach [tg] env).map (·.2) = [assign tg env] := by intro _; rfl) : G1 c B (.Assign [tg] e pos) sl R := by
  obtain ⟨te, g1, s1⟩ := he
  obtain ⟨g, pp, s2⟩ := hg
  refine ⟨tAsg te g, fun X hX => ps_asg (g1 X hX) (pp X hX) (hs _) (hw _) (h1 _), fun S H σ I D q => s1 S H σ I _ fun v S1 H1 I1 a1 x1 _ => ?_⟩
  exact s2 S1 H1 σ v I1 x1 _ fun σ' I2 _ _ => q.nx S1 H1 σ' sl2 a1.s I2 hr
theorem go_asg {R : Rt} {p : Bool} {rest : List Stmt} (he : EV c B e sl p (.st d) sl1) (hg : GT c B tg d js sl1 sl2) (h2 : GO c B rest sl2 R) (hs : ∀ env, swapsWithSole [tg] e pos.line env = pure false := by intro _; rfl) (hw : ∀ env, swappedStores [tg] e env = pure none := by intro _; rfl)
    (h1 : ∀ env, (assignEach [tg] env).map (·.2) = [assign tg env] := by intro _; rfl) : GO c B (.Assign [tg] e pos :: rest) sl R := go_to (g1_asg (p1 := pos) he hg rfl hs hw h1) h2
/-- for -/
theorem g1_for {R : Rt} {p : Bool} {ba : List Stmt} (hi : EI c B tg e sl p ds true sl1) (J : Nat → List Sl → Prop) (h0 : J 0 sl1) (hs : ∀ i d s, ds[i]? = some d → J i s → ∃ js s2, GT c B tg d js s s2 ∧ GO c B ba s2 ⟨J (i + 1), R.rt, R.nx, J (i + 1), R.ex⟩) (hd : ∀ s, J ds.length s → R.nx s)
    (hf : ∀ env x, foldedSetIterable e env x = pure x := by intro _ _; rfl) : G1 c B (.For tg e ba [] pos) sl R := by
  obtain ⟨wi, gi, si⟩ := hi
  have gg : ∃ g : TG, (∀ X, InCx c X → PG X tg g) ∧ ∀ d s js s2, GT c B tg d js s s2 → ∀ S H σ v, Stt c.K B S H σ s → Tr c.K S v d → ∀ Q : L2.St → Hp → Prop, (∀ σ', Stt c.K B S H σ' s2 → Q σ' H) → g v σ H Q :=
    ⟨fun v σ H Q => ∃ g : TG, (∀ X, InCx c X → PG X tg g) ∧ g v σ H Q, fun X hX => ⟨fun pins s σ H v u Q I r ⟨g, hg, h⟩ => (hg X hX).run pins s σ H v u Q I r h⟩, fun d s js s2 ⟨g, hg, sg⟩ S H σ v I t Q q => ⟨g, hg, sg S H σ v I t Q fun σ' I' _ _ => q σ' I'⟩⟩
  obtain ⟨g, pg, sg⟩ := gg
  refine ⟨tFor wi g (rB c ba), fun X hX => ps_for hX.po hX.calm (gi X hX) (pg X hX) (ps_rB hX) (hf _), fun S H σ I D q => si S H σ I _ fun It S1 H1 I1 a1 it => ?_⟩
  rw [if_pos rfl] at it
  refine ⟨fun i m σ H => m = ds.length - i ∧ i ≤ ds.length ∧ ∃ S2 s2, Same S1 S2 ∧ Stt c.K B S2 H σ s2 ∧ J i s2, ⟨ds.length, by simp, Nat.zero_le _, S1, sl1, .refl _, I1, h0⟩, ?_⟩
  rintro i m σ2 H2 ⟨rfl, hi, S2, s2, a2, I2, j2⟩
  obtain ⟨it1, it2⟩ := it S2 H2 a2 I2.sh (same_sam (a2.trans I2.sh)) i
  by_cases hlt : i < ds.length
  · obtain ⟨go, yl⟩ := it1 _ (List.getElem?_eq_getElem hlt)
    refine .inr ⟨go, fun σ' H' => ∃ S3 s3, Same S1 S3 ∧ Stt c.K B S3 H' σ' s3 ∧ J (i + 1) s3, fun σ' H' h => ⟨ds.length - (i + 1), by omega, rfl, hlt, h⟩, fun x H3 y => ?_⟩
    obtain ⟨S3, b1, b2, b3, b4, bn, tx⟩ := yl x H3 y
    have I3 := I2.grow b1 b3 b2 b4 (bn I2.snt)
    obtain ⟨js, s4, gt, go4⟩ := hs i _ s2 (List.getElem?_eq_getElem hlt) j2
    refine sg _ _ _ _ gt S3 H3 σ2 x I3 tx _ fun σ4 I4 => ?_
    have up : Same S1 S3 := a2.trans b1
    exact go4.rr S3 H3 σ4 I4 _ ⟨fun S5 H5 σ5 s5 c1 I5 j5 => ⟨S5, s5, up.trans c1, I5, j5⟩, fun S5 H5 σ5 s5 v k c1 I5 x5 h5 => q.rt S5 H5 σ5 s5 v k ((a1.s.trans up).trans c1) I5 x5 h5,
      fun S5 H5 σ5 s5 c1 I5 h5 => q.nx S5 H5 σ5 s5 ((a1.s.trans up).trans c1) I5 h5, fun S5 H5 σ5 s5 c1 I5 j5 => ⟨S5, s5, up.trans c1, I5, j5⟩,
      fun S5 H5 σ5 s5 cls dx x c1 I5 z h => q.ex S5 H5 σ5 s5 cls dx x ((a1.s.trans up).trans c1) I5 z h⟩
  · have e1 : i = ds.length := by omega
    subst e1
    exact .inl ⟨it2 (Nat.le_refl _), q.nx S2 H2 σ2 s2 (a1.s.trans a2) I2 (hd s2 j2)⟩
end
end Mw

/-! MwE: comprehensions; lists that change; defs, their promises, their calls. -/
namespace Mw
open PySem PySem.Spec L2
variable [Tb]

/-! ## comprehensions -/
def noW : WX := fun _ _ _ _ => False
def CxD.blk (c : CxD) (sc : Scope) : CxD := { c with sc := sc, W := noW, top := false, xt := { c.xt with ext := fun _ => True } }
theorem lookup_re {cnd : Str → NameKind → Bool} {x : Str} : ∀ {l : List (Str × NameKind)}, (l.map fun (n, k) => if cnd n k then (n, NameKind.cell) else (n, k)).lookup x = (l.lookup x).map fun k => if cnd x k then NameKind.cell else k
  | [] => rfl
  | (n, k) :: r => by
    have ih := lookup_re (cnd := cnd) (x := x) (l := r)
    rw [List.map_cons]
    by_cases h : x = n
    · subst h
      show List.lookup x ((if cnd x k = true then (x, NameKind.cell) else (x, k)) :: _) = _
      cases hc : cnd x k <;> simp [List.lookup_cons, hc]
    · have hb : (x == n) = false := beq_eq_false_iff_ne.mpr h
      show List.lookup x ((if cnd n k = true then (n, NameKind.cell) else (n, k)) :: _) = _
      cases hc : cnd n k <;> simp [List.lookup_cons, hb] <;> exact ih
theorem InCx.block {c : CxD} {X : Cx} (h : InCx c X) {scope : Scope} (hsk : scope.kind = .function := by assumption) {s : Shared} {H : Hp} {C : Addr} {cl : List (Str × Addr)} {fp : List Addr} : InCx (c.blk scope) (X.blk s H scope (compEnvC scope cl C X.env) fp) := by
  have lk : ∀ {x : Str} {k : NameKind}, scope.names.lookup x = some k → (relabel scope X.env).names.lookup x = some (if (k == .free && X.env.scope.kind == .function && X.env.kindOf x == some .cell) then NameKind.cell else k) := fun {x k} e => by
    have h1 := lookup_re (cnd := fun n k => k == .free && X.env.scope.kind == .function && X.env.kindOf n == some .cell) (x := x) (l := scope.names)
    rw [e] at h1
    exact h1
  have lc : ∀ {x : Str}, scope.names.lookup x = some .cell → (relabel scope X.env).names.lookup x = some .cell := fun e => lk e
  have ll : ∀ {x : Str}, scope.names.lookup x = some .local → (relabel scope X.env).names.lookup x = some .local := fun e => lk e
  have lg : ∀ {x : Str}, scope.names.lookup x = some .globalImplicit → (relabel scope X.env).names.lookup x = some .globalImplicit := fun e => lk e
  have lf : ∀ {x : Str}, scope.names.lookup x = some .free → (relabel scope X.env).names.lookup x = some .cell ∨ (relabel scope X.env).names.lookup x = some .free := fun {x} e => by
    rw [lk e]
    split
    · exact .inl rfl
    · exact .inr rfl
  refine ⟨h.hP, h.hw, h.hK, h.hm, h.hb, h.hN, h.calm, hsk, h.gu, h.rm, fun x hv => ?_, fun x hv => ll hv, fun x hv => lg hv, fun x hv => ?_, fun x hv => ⟨lc hv, ?_⟩, PassesOwn.never, takes0, (fun z => nomatch z), h.cd, h.ql, fun _ _ => trivial⟩
  · rcases hv with e | e | e
    · exact .inl (ll e)
    · exact .inr (.inl (lc e))
    · exact .inr (lf e)
  · rcases hv with e | e
    · exact .inl (lc e)
    · exact lf e
  · show (scope.names.lookup x == some .cell) = true
    rw [show scope.names.lookup x = some .cell from hv]; rfl
/-- the ifs of a comprehension -/
def TVs (c : CxD) (B : Bs) (es : List Expr) (sl : List Sl) (b : Bool) : Prop := ∃ t, (∀ X, InCx c X → PTs X es t) ∧ SemT c.K B t sl true b sl
section
variable {c : CxD} {B : Bs} {tg e a b elt iter : Expr} {ifs : List Expr} {sl sl1 sl2 sl3 : List Sl} {p q z t : Bool} {k k1 k2 : Kd} {pos p1 p2 p3 : Pos} {ds es : List PyData} {i j : Int} {scope : Scope} {own : List (Str × Nat)}
theorem tvs_nil : TVs c B [] sl true := ⟨tYes, fun _ _ => pts_nil, fun S H σ I Q q => q S H I .refl⟩
theorem tvs_one (h : TV c B e sl true t sl) : TVs c B [e] sl t := by
  obtain ⟨te, h, hs⟩ := h
  exact ⟨te, fun X hX => pts_one (h X hX), hs⟩
theorem wipe_get {σ : L2.St} {m : Nat} : ∀ {vs : List Nat}, (L2.wipe σ vs)[m]? = if m ∈ vs then (σ[m]?).map fun _ => none else σ[m]?
  | [] => by simp [L2.wipe]
  | v :: vs => by
    have ih := wipe_get (σ := σ) (m := m) (vs := vs)
    unfold L2.wipe
    by_cases h : m = v
    · subst h
      rw [List.getElem?_set]
      simp only [if_true]
      rw [wipe_length]
      by_cases hm : m < σ.length
      · simp [hm]
      · simp [hm]
    · rw [List.getElem?_set_ne (Ne.symm h), ih]
      simp [h]
theorem wipe_same {σ σ' : L2.St} {vs js : List Nat} (hj : ∀ x ∈ js, x ∈ vs) (hl : σ'.length = (L2.wipe σ vs).length) (h : ∀ m, m ∉ js → σ'[m]? = (L2.wipe σ vs)[m]?) : L2.wipe σ' vs = L2.wipe σ vs := by
  refine List.ext_getElem? fun m => ?_
  rw [wipe_get, wipe_get]
  by_cases hm : m ∈ vs
  · rw [if_pos hm, if_pos hm]
    rw [wipe_length] at hl
    by_cases hlt : m < σ.length
    · rw [List.getElem?_eq_getElem hlt, List.getElem?_eq_getElem (by omega)]; rfl
    · rw [List.getElem?_eq_none (by omega), List.getElem?_eq_none (by omega)]
  · rw [if_neg hm, if_neg hm, h m fun z => hm (hj m z), wipe_get, if_neg hm]
theorem comp_core (f : PyData → Option PyData) (hi : EI c B tg iter sl p ds z sl1)
    (hs : ∀ (i : Nat) (d : PyData), ds[i]? = some d → ∃ js s2 b, GT (c.blk scope) B tg d js (wipeS sl1 (own.map (·.2))) s2 ∧ (∀ x ∈ js, x ∈ own.map (·.2)) ∧ TVs (c.blk scope) B ifs s2 b ∧ (b = true → ∃ d', f d = some d' ∧ EV (c.blk scope) B elt s2 true (.st d') s2) ∧ (b = false → f d = none))
    (hl : ds.length ≤ 1000000) : ∃ wi g tt, (∀ X, InCx c X → PI X tg iter wi) ∧ (∀ X, InCx (c.blk scope) X → PG X tg g) ∧ (∀ X, InCx (c.blk scope) X → PTs X ifs tt) ∧
      SemE c.K B (tLc wi g tt (rE (c.blk scope) elt) (own.map (·.2))) sl p (.fr (.lst (ds.filterMap f))) sl1 := by
  obtain ⟨wi, gi, si⟩ := hi
  let c' := c.blk scope
  let g : TG := fun v σ H Q => ∃ g : TG, (∀ X, InCx c' X → PG X tg g) ∧ g v σ H Q
  let tt : TT := fun σ H Q => ∃ t, (∀ X, InCx c' X → PTs X ifs t) ∧ t σ H Q
  have gP : ∀ X, InCx c' X → PG X tg g := fun X hX => ⟨fun pins s σ H v u Q I r ⟨g, hg, h⟩ => (hg X hX).run pins s σ H v u Q I r h⟩
  have tP : ∀ X, InCx c' X → PTs X ifs tt := fun X hX => ⟨fun pins s σ H Q I ⟨t, ht, h⟩ => (ht X hX).run pins s σ H Q I h⟩
  refine ⟨wi, g, tt, gi, gP, tP, fun S H σ I Q fn => si S H σ I _ fun It S1 H1 I1 a1 it => ?_⟩
  · intro D nD
    obtain ⟨nS1, n01, naD⟩ := I1.notIn nD
    refine ⟨fun i m H => m = ds.length - i ∧ i ≤ ds.length ∧ ∃ S2 acc, Same S1 S2 ∧ (∀ a o, S2 a = some o → S1 a = none → H1 a = none) ∧ S2 D = none ∧ Stt c.K B S2 H σ sl1 ∧ Sam H1 H ∧ H D = some (.lst acc) ∧ Trs c.K S2 acc ((ds.take i).filterMap f),
      ⟨ds.length, by simp, Nat.zero_le _, S1, [], .refl _, fun a o h1 h2 => (by rw [h1] at h2; cases h2), nS1, I1.laid nD, same_sam (same_new nD), upd_same, .nil⟩, ?_⟩
    rintro i m H2 ⟨rfl, hil, S2, acc, s2, n2, nS2, I2, h2, hD, tacc⟩
    obtain ⟨it1, it2⟩ := it S2 H2 s2 I2.sh (by
      cases z with
      | true => rw [if_pos rfl]; exact same_sam (s2.trans I2.sh)
      | false => rw [if_neg Bool.false_ne_true]; exact h2) i
    by_cases hlt : i < ds.length
    · have hget := List.getElem?_eq_getElem hlt
      obtain ⟨go, yl⟩ := it1 _ hget
      refine .inr ⟨go, fun H' => ∃ S2 acc, Same S1 S2 ∧ (∀ a o, S2 a = some o → S1 a = none → H1 a = none) ∧ S2 D = none ∧ Stt c.K B S2 H' σ sl1 ∧ Sam H1 H' ∧ H' D = some (.lst acc) ∧ Trs c.K S2 acc ((ds.take (i + 1)).filterMap f),
        fun H' h => ⟨ds.length - (i + 1), by omega, rfl, hlt, h⟩, fun x H3 y => ?_⟩
      obtain ⟨S3, b1, b2, b3, b4, bn, tx⟩ := yl x H3 y
      have I3 := I2.grow b1 b3 b2 b4 (bn I2.snt)
      have keepD : ∀ {S4 H4}, LamX.Tabs Tb.T H4 → NoT S4 → Same S3 S4 → Sam H3 H4 → (∀ a o, S4 a = some o → S3 a = none → H3 a = none) → Same S4 H4 → Stt c.K B S4 H4 σ sl1 ∧ S4 D = none ∧ (∀ a o, S4 a = some o → S1 a = none → H1 a = none) ∧ H4 D = some (.lst acc) ∧ Sam H1 H4 := fun {S4 H4} tb nt4 q1 q2 q3 q4 => by
        have hD3 : H3 D = some (.lst acc) := b3 _ _ hD
        have n3 : S3 D = none := by
          cases e : S3 D with
          | none => rfl
          | some o =>
            have := b4 D o e nS2
            rw [hD] at this
            cases this
        have n4 : S4 D = none := by
          cases e : S4 D with
          | none => rfl
          | some o =>
            have := q3 D o e n3
            rw [hD3] at this
            cases this
        refine ⟨I3.growS q1 q2 q4 q3 tb nt4, n4, fun a o e1 e2 => ?_, q2.st _ _ hD3 (fun ps z => nomatch z), (h2.trans (same_sam b3)).trans q2⟩
        cases e3 : S3 a with
        | none =>
          have e4 := q3 a o e1 e3
          exact (h2.trans (same_sam b3)).free e4
        | some o3 =>
          cases e4 : S2 a with
          | none => exact h2.free (b4 a o3 e3 e4)
          | some o4 => exact n2 a o4 e4 e2
      obtain ⟨js, s4, b, ⟨g0, gp0, gs0⟩, hj, ⟨t0, tp0, ts0⟩, hy, hn⟩ := hs i _ hget
      refine ⟨g0, gp0, gs0 S3 H3 _ x (I3.wipe _) tx _ fun σ' I' l' k' => ⟨wipe_same hj l' k', t0, tp0, ?_⟩⟩
      refine ts0 S3 H3 σ' I' _ fun S4 H4 I4 a4 => ?_
      have cat : (ds.take (i + 1)).filterMap f = (ds.take i).filterMap f ++ (f ds[i]).toList := by
        rw [List.take_succ, hget, List.filterMap_append]
        show _ ++ List.filterMap f [ds[i]] = _
        cases e : f ds[i] with
        | none => rw [List.filterMap_cons_none e]; rfl
        | some y => rw [List.filterMap_cons_some e]; rfl
      cases b with
      | true =>
        rw [if_pos rfl]
        obtain ⟨d', hd', ev⟩ := hy rfl
        refine ev.rr S4 H4 σ' I4 _ fun y S5 H5 I5 a5 x5 _ => ?_
        have a45 := a4.trans a5
        obtain ⟨J, nD5, nw5, hD5, h15⟩ := keepD (S4 := S5) (H4 := H5) I5.tabs I5.snt a45.s (a45.h rfl) a45.n I5.sh
        refine ⟨acc, hD5, ?_, S5, acc ++ [y], (s2.trans b1).trans a45.s, nw5, nD5, J.side nD5 n01 naD hD5 lst_soft, ⟨fun a o e hnt => ?_, fun a ps e => ?_⟩, upd_same, ?_⟩
        · have e1 := tacc.len
          have e2 : ((ds.take i).filterMap f).length ≤ (ds.take i).length := List.length_filterMap_le _ _
          rw [List.length_take] at e2
          rw [sizeLine_eq]
          omega
        · rw [upd_ne (ne_of_none e nD)]
          exact h15.st _ _ e hnt
        · rw [upd_ne (ne_of_none e nD)]
          exact h15.tb _ _ e
        · rw [cat, hd']
          exact (tacc.mono (b1.trans a45.s)).app (.one x5)
      | false =>
        rw [if_neg Bool.false_ne_true]
        obtain ⟨J, nD5, nw5, hD5, h15⟩ := keepD (S4 := S4) (H4 := H4) I4.tabs I4.snt a4.s (a4.h rfl) a4.n I4.sh
        refine ⟨S4, acc, (s2.trans b1).trans a4.s, nw5, nD5, J, h15, hD5, ?_⟩
        rw [cat, hn rfl]
        show Trs c.K S4 acc (_ ++ [])
        rw [List.append_nil]
        exact tacc.mono (b1.trans a4.s)
    · have e1 : i = ds.length := by omega
      subst e1
      refine .inl ⟨it2 (Nat.le_refl _), ?_⟩
      rw [List.take_length] at tacc
      refine fn _ S2 H2 I2 (a1.trans (q := true) ⟨s2, n2, fun a o e => h2.dom e, fun a o e hnt _ => h2.st _ _ e hnt, fun _ => h2, fun _ h => h⟩ |>.weak fun h => by rw [h]; rfl) ⟨D, rfl, nS2, n01, ⟨acc, hD, tacc⟩, naD⟩ fun l e => ?_
      cases e
      cases e2 : H D with
      | none => rfl
      | some o =>
        obtain ⟨o', e3⟩ := a1.d D o e2
        rw [nD] at e3
        cases e3
theorem blk_in {X : Cx} (hX : InCx c X) (ok : blkC c.N c.sc scope own = true) : BlkOk X.N X.env.scope scope own := by
  have bk := blkOk_by ok
  exact ⟨bk.kind, bk.uniq, by rw [hX.hN]; exact bk.ix, fun y hy e => hX.f _ (bk.free y hy e), by rw [hX.hN]; exact bk.own⟩
theorem ev_comp (own : List (Str × Nat)) (f : PyData → Option PyData) (hi : EI c B tg iter sl p ds z sl1)
    (hs : ∀ (i : Nat) (d : PyData), ds[i]? = some d → ∃ js s2 b, GT (c.blk scope) B tg d js (wipeS sl1 (own.map (·.2))) s2 ∧ (∀ x ∈ js, x ∈ own.map (·.2)) ∧ TVs (c.blk scope) B ifs s2 b ∧ (b = true → ∃ d', f d = some d' ∧ EV (c.blk scope) B elt s2 true (.st d') s2) ∧ (b = false → f d = none))
    (hl : ds.length ≤ 1000000) (ok : blkC c.N c.sc scope own = true := by (try dsimp only [CxD.blk]); decide +kernel) (nd : c.N.Nodup := by assumption) (hf : ∀ env x, foldedSetIterable iter env x = pure x := by intro _ _; rfl) : EV c B (.ListComp elt [⟨tg, iter, ifs, 0⟩] scope pos) sl p (.fr (.lst (ds.filterMap f))) sl1 := by
  obtain ⟨wi, g, tt, gi, gP, tP, sem⟩ := comp_core f hi hs hl
  have sk : scope.kind = .function := (blkOk_by ok).kind
  exact ⟨_, fun X hX => pe_lc hX.calm (by rw [hX.hN]; exact nd) (gi X hX) (blk_in hX ok) (fun s H C cl fp => gP _ (hX.block sk)) (fun s H C cl fp => tP _ (hX.block sk)) (fun s H C cl fp => pe_rE (hX.block sk)) (hf _), sem⟩
/-- name = [..], kept as it is (own) or for good (val) -/
theorem g1_setC {R : Rt} (i : Nat) {y : Str} (own : List (Str × Nat)) (f : PyData → Option PyData) (hi : EI c B tg iter sl p ds z sl1)
    (hs : ∀ (i : Nat) (d : PyData), ds[i]? = some d → ∃ js s2 b, GT (c.blk scope) B tg d js (wipeS sl1 (own.map (·.2))) s2 ∧ (∀ x ∈ js, x ∈ own.map (·.2)) ∧ TVs (c.blk scope) B ifs s2 b ∧ (b = true → ∃ d', f d = some d' ∧ EV (c.blk scope) B elt s2 true (.st d') s2) ∧ (b = false → f d = none))
    (hr : R.nx (sl1.set i (.own (.lst (ds.filterMap f))))) (hl : ds.length ≤ 1000000) (ok : blkC c.N c.sc scope own = true := by (try dsimp only [CxD.blk]); decide +kernel) (hii : (sl1[i]?).isSome = true := by rfl) (hN : c.N[i]? = some y := by rfl) (nd : c.N.Nodup := by assumption) (hx : c.sc.names.lookup y = some .local := by rfl) (hk : (scope.names.any fun (n, k) => n == y && (k == .local || k == .cell)) = false := by decide +kernel) (hln : (p1.line == pos.line) = true := by rfl)
    (hf : ∀ env x, foldedSetIterable iter env x = pure x := by intro _ _; rfl) : G1 c B (.Assign [.Name y p1] (.ListComp elt [⟨tg, iter, ifs, 0⟩] scope pos) p2) sl R := by
  obtain ⟨wi, g, tt, gi, gP, tP, sem⟩ := comp_core f hi hs hl
  have sk : scope.kind = .function := (blkOk_by ok).kind
  refine ⟨_, fun X hX => ps_setLc hX.calm (by rw [hX.hN]; exact nd) (by rw [hX.hN]; exact hN) (hX.l _ hx) (sw_true hX.kind (hX.l _ hx) hln hk) (gi X hX) (blk_in hX ok) (fun s H C cl fp => gP _ (hX.block sk)) (fun s H C cl fp => tP _ (hX.block sk)) (fun s H C cl fp => pe_rE (hX.block sk)) (hf _), fun S H σ I D q => ?_⟩
  exact sem S H σ I _ fun v S1 H1 I1 a1 x1 _ => q.nx S1 H1 _ _ a1.s (I1.set x1 hii) hr
end
end Mw

/-! MwF: lists that change; defs, their promises, their calls. -/
namespace Mw
open PySem PySem.Spec L2
variable [Tb]

section
variable {K : PySem.W.Frag} {B : Bs} {S S' H H' : Hp} {σ : L2.St} {sl : List Sl} {i : Nat} {l : Addr}
/-- what a slot holds for itself will not change any more -/
theorem Stt.frzS (I : Stt K B S H σ sl) {s : Sl} {x : Option V} {fp : List Addr} {d : PyData} (hs : sl[i]? = some s) (hx : σ[i]? = some x) (hf : ∀ a ∈ fp, FpS s x a) (hn : ∀ a ∈ fp, B.H0 a = none) (ht : SlOk K B (layS S H fp) H x (.val d)) : Same S (layS S H fp) ∧ Stt K B (layS S H fp) H σ (sl.set i (.val d)) := by
  have hlen : i < sl.length := (List.getElem?_eq_some_iff.mp hs).1
  have nS : ∀ a ∈ fp, S a = none := fun a m => (I.ownAt ⟨i, s, x, hs, hx, hf a m⟩).1
  have s1 := layS_ext (H := H) nS
  refine ⟨s1, I.s0.trans s1, fun b u e1 => ?_, fun b u e1 e2 => ?_, I.keep, I.dom, I.lsd, by rw [List.length_set]; exact I.len, fun j s2 es => ?_, fun j1 j2 a y1 y2 => ?_, I.tabs, I.tbk, fun a ps e => ?_, I.sm⟩
  · by_cases m : b ∈ fp
    · rw [layS_in m] at e1; exact e1
    · rw [layS_out m] at e1; exact I.sh _ _ e1
  · by_cases m : b ∈ fp
    · exact hn b m
    · rw [layS_out m] at e1; exact I.new b u e1 e2
  · by_cases hj : j = i
    · subst hj
      rw [List.getElem?_set_self hlen] at es
      cases es
      exact ⟨x, hx, ht⟩
    · rw [List.getElem?_set_ne (Ne.symm hj)] at es
      obtain ⟨y, hy, ok⟩ := I.slot j s2 es
      refine ⟨y, hy, ok.ext s1 (fun _ _ => rfl) fun a m => ?_⟩
      rw [layS_out fun m2 => hj (I.dis j i a ⟨s2, y, es, hy, m⟩ ⟨s, x, hs, hx, hf a m2⟩)]
      exact (ok.fp m).1
  · rcases fpAt_setS y1 with ⟨h1, f1⟩ | ⟨h1, _, _, f1⟩
    · rcases fpAt_setS y2 with ⟨h2, f2⟩ | ⟨h2, _, _, f2⟩
      · exact I.dis j1 j2 a f1 f2
      · exact absurd f2 fpS_val
    · exact absurd f1 fpS_val
  · by_cases m : a ∈ fp
    · rw [layS_in m] at e
      obtain ⟨_, u, eu, nu⟩ := I.ownAt ⟨i, s, x, hs, hx, hf a m⟩
      exact Hard.nt nu ps (Option.some.inj (eu.symm.trans e))
    · rw [layS_out m] at e; exact I.snt a ps e
/-- a changing list that will not change any more -/
theorem Stt.frz (I : Stt K B S H σ sl) {ds : List PyData} (hs : sl[i]? = some (.own (.lst ds))) : ∃ S', Same S S' ∧ Stt K B S' H σ (sl.set i (.val (.list ds))) := by
  obtain ⟨x, hx, l, rfl, n, ⟨xs, e, tr⟩, n0⟩ := I.slot i _ hs
  have s1 := layS_ext (S := S) (H := H) (gp := [l]) (by simpa using n)
  exact ⟨_, I.frzS (fp := [l]) hs hx (by simp [fpS_own]) (by simpa using n0) ⟨_, rfl, .lst (.inl (.inl ((layS_in (by simp)).trans e))) (tr.mono s1)⟩⟩
theorem Stt.frzP (I : Stt K B S H σ sl) {d : PTr} {fp : List Addr} (hs : sl[i]? = some (.prv d fp)) : ∃ S', Same S S' ∧ Stt K B S' H σ (sl.set i (.val d.d)) := by
  obtain ⟨x, hx, v, rfl, t, nd, n⟩ := I.slot i _ hs
  exact ⟨_, I.frzS (fp := fp) hs hx (fun a m => fpS_prv.mpr m) (fun a m => (n a m).2) ⟨v, rfl, t.frz fun a m => (n a m).1⟩⟩
/-- the state behind something that changed one own object -/
theorem Stt.after (I : Stt K B S H σ sl) {s s' : Sl} {o o' : Ow} (hs : sl[i]? = some s) (ho : s.ow = some o) (ho' : s'.ow = some o') (hk : (∀ o, s = .own o → s' = .own o') ∧ ∀ j o, s = .io j o → s' = .io j o') (hl : σ[i]? = some (some (.ref l)))
    (ss : Same S S') (sh : Same S' H') (n : ∀ a o, S' a = some o → S a = none → H a = none) (kp : ∀ a o, H a = some o → (∀ ps, o ≠ .tbl ps) → a ≠ l → H' a = some o) (kt : ∀ a ps, H a = some (.tbl ps) → ∃ ps', H' a = some (.tbl ps')) (tb : LamX.Tabs Tb.T H') (nt : NoT S') (nl : S' l = none) (ow : OwOk K S' H' l o') : Stt K B S' H' σ (sl.set i s') := by
  obtain ⟨l0, e0, n0, ow0⟩ := I.own hs ho
  rw [hl] at e0
  cases e0
  obtain ⟨u0, eu0, nu0⟩ := ow0.soft
  obtain ⟨u1, eu1, nu1⟩ := ow.soft
  let H1 : Hp := fun a => if a = l then H l else H' a
  have h1l : H1 l = H l := if_pos rfl
  have h1n : ∀ a, a ≠ l → H1 a = H' a := fun a ha => if_neg ha
  have e0 : H1 = upd H' l u0 := by
    funext a
    by_cases ea : a = l
    · rw [ea, h1l, upd_same, eu0]
    · rw [upd_ne ea, h1n a ea]
  have I1 : Stt K B S' H1 σ sl := I.growS ss ⟨fun a w e hnt => by
    by_cases ea : a = l
    · rw [ea, h1l]; rw [ea] at e; exact e
    · rw [h1n a ea]; exact kp a w e hnt ea, fun a ps e => by
    have ea : a ≠ l := fun z => by rw [z, eu0] at e; exact nu0 (.inl ⟨ps, Option.some.inj e⟩)
    rw [h1n a ea]; exact kt a ps e⟩ (fun a w e => by
    have ea : a ≠ l := ne_of_none e nl
    rw [h1n a ea]; exact sh _ _ e) n (by rw [e0]; exact tabs_upd tb eu1 nu1) nt
  have e2 : upd H1 l u1 = H' := by
    funext a
    by_cases ea : a = l
    · rw [ea, upd_same, eu1]
    · rw [upd_ne ea, h1n a ea]
  have := I1.mutate (u := u1) hs ho ho' hk hl (by rw [e2]; exact ow)
  rwa [e2] at this
end
/-- the slot holds another content -/
def Sl.put : Sl → Ow → Sl
  | .own _, o => .own o
  | .io j _, o => .io j o
  | s, _ => s
theorem put_ow {s : Sl} {o o' : Ow} (h : s.ow = some o) : (s.put o').ow = some o' := by cases s <;> first | rfl | cases h
theorem put_kind {s : Sl} {o' : Ow} : (∀ o, s = .own o → s.put o' = .own o') ∧ ∀ j o, s = .io j o → s.put o' = .io j o' := ⟨fun o e => by rw [e]; rfl, fun j o e => by rw [e]; rfl⟩
section
variable {c : CxD} {B : Bs} {e a b : Expr} {es : List Expr} {ss rest : List Stmt} {sl sl1 sl2 sl3 : List Sl} {p q : Bool} {k k1 k2 : Kd} {ks : List Kd} {pos p1 p2 p3 : Pos} {R : Rt} {d : PyData} {ds ds' : List PyData} {s : Sl}
theorem go_frz (i : Nat) (h : GO c B ss (sl.set i (.val (.list ds))) R) (hs : sl[i]? = some (.own (.lst ds)) := by rfl) : GO c B ss sl R := by
  refine ⟨rB c ss, fun X hX => ps_rB hX, fun S H σ I D q => ?_⟩
  obtain ⟨S', s1, I'⟩ := I.frz hs
  exact h.rr S' H σ I' D (q.up s1)
/-- name = [..], kept for good -/
theorem go_fix {R : Rt} (i : Nat) {x : Str} (h : EV c B e sl p (.fr (.lst ds)) sl1) (h2 : GO c B rest (sl1.set i (.val (.list ds))) R) (hi : (sl1[i]?).isSome = true := by rfl) (hN : c.N[i]? = some x := by rfl) (nd : c.N.Nodup := by assumption) (hx : c.sc.names.lookup x = some .local ∨ c.sc.names.lookup x = some .cell := by first | exact .inl rfl | exact .inr rfl)
    (hsw : ∀ X, InCx c X → swapsWith e (some (.Name x p1)) pos.line X.env = pure false := by intro _ _; rfl) : GO c B (.Assign [.Name x p1] e pos :: rest) sl R := go_set i h.fz h2 hi hN nd hx hsw
theorem mut_adv {K : PySem.W.Frag} {S H : Hp} {σ : L2.St} {i : Nat} {l : Addr} {u : HO} {o' : Ow} (I : Stt K B S H σ sl) {o : Ow} (hs : sl[i]? = some s) (ho : s.ow = some o) (hl : σ[i]? = some (some (.ref l))) : Adv σ sl S H (sl.set i (s.put o')) S (upd H l u) false := by
  refine ⟨.refl _, fun a o h1 h2 => (by rw [h1] at h2; cases h2), fun a w e => ?_, fun a w e _ na => ?_, (fun h => nomatch h), fun a h => ?_⟩
  · by_cases ea : a = l
    · rw [ea]; exact ⟨u, upd_same⟩
    · exact ⟨w, by rw [upd_ne ea]; exact e⟩
  · have ea : a ≠ l := fun z => na ⟨i, .of_ow hs ho (by rw [hl, z])⟩
    rw [upd_ne ea]
    exact e
  · rcases ownAt_setS h with h | ⟨x, hx, f⟩
    · exact h
    · rw [hl] at hx
      cases hx
      rcases f with ⟨o2, _, e⟩ | ⟨d, fp, e, _⟩
      · cases e; exact ⟨i, .of_ow hs ho hl⟩
      · cases s with
        | no => cases ho
        | val d => cases ho
        | raw d => cases ho
        | prv d fp => cases ho
        | own o => cases e
        | io j o => cases e
/-- x.name(e, ..) of a changing list -/
theorem ev_mut {name : Str} {id : String} {r : V → List V → Hp → VK → Prop} (i : Nat) {x : Str} (pa : PlainAttrs "list") (slot : Slot "list" name id) (hty : typeOf (.builtin id) = pure (.type "method_descriptor")) (hm : ∀ X, InCx c X → MtR X id r) (ha : AV c B (e :: es) sl true ks sl)
    (hr : ∀ B σ S H l vs xs, Stt c.K B S H σ sl → KdsOk c.K B σ sl S H vs ks → H l = some (.lst xs) → Trs c.K S xs ds → ∀ Q : VK, (∀ v ys, Tr c.K S v d → Trs c.K S ys ds' → Q v (upd H l (.lst ys))) → r (.ref l) vs H Q)
    (hs : sl[i]? = some s := by rfl) (ho : s.ow = some (.lst ds) := by rfl) (hN : c.N[i]? = some x := by rfl) (hv : Vis c.sc x := by first | exact .inl rfl | exact .inr (.inl rfl) | exact .inr (.inr rfl))
    (h1 : (x == ("__debug__" : Str)) = false := by decide) (h2 : (x == ("__classdict__" : Str)) = false := by decide) (hbase : ∀ env, attributeBase (.Name x p1) name env (eval (.Name x p1) env) = eval (.Name x p1) env := by intro _; rfl)
    (hfew : ∀ env, ((backTo p3 (starEach (e :: es) env)).all (fun x => !x.1) && (backToKw p3 (keywordEach [] env)).all (fun x => x.1.isSome) && decide ((e :: es).length + ([] : List Keyword).length + (if ([] : List Keyword).isEmpty then 0 else 1) < 30)) = true := by intro _; rfl)
    (hline : (p2.endLine == p3.line) = true := by rfl) (hst : ∀ env, starEach (e :: es) env = (false, eval e env) :: starEach es env := by intro _; rfl) (hpl : ∀ env, (backTo p3 (starEach es env)).any (·.1) = false := by intro _; rfl) :
    EV c B (.Call (.Attribute (.Name x p1) name p2) (e :: es) [] p3) sl false (.st d) (sl.set i (s.put (.lst ds'))) := by
  obtain ⟨ta, ga, sa⟩ := ha
  refine ⟨tBM c.K "list" r (tVar i) ta, fun X hX => by have := pe_bm pa slot hty (hm X hX) (pe_var (X := X) (i := i) (pos := p1) (by rw [hX.hN]; exact hN) (hX.v x hv) h1 h2) (ga X hX) (apos := p2) (cpos := p3) (hbase _) (hfew _) hline (hst _) (hpl _); rw [hX.hK] at this; exact this, fun S H σ I Q fn => ?_⟩
  obtain ⟨l, el, nl, xs0, hx0, t0⟩ := I.own hs ho
  refine ⟨.ref l, el, .inl ⟨rfl, xs0, .inl (.inl hx0)⟩, ?_⟩
  refine sa S H σ I _ fun vs S1 H1 I1 a1 x1 => ?_
  obtain ⟨l', el', nl', xs, hx, tx⟩ := I1.own hs ho
  rw [el] at el'
  cases el'
  refine hr B σ S1 H1 l vs xs I1 x1 hx tx Q fun v ys tv ty => ?_
  have I2 := I1.mutate (u := .lst ys) hs ho (put_ow (o' := .lst ds') ho) put_kind el ⟨ys, upd_same, ty⟩
  exact fn v S1 _ I2 ((a1.trans (mut_adv I1 hs ho el)).weak fun h => nomatch h) tv trivial
theorem ev_append (i : Nat) {x : Str} (ha : EV c B e sl true (.st d) sl) (hs : sl[i]? = some s := by rfl) (ho : s.ow = some (.lst ds) := by rfl) (hN : c.N[i]? = some x := by rfl) (hv : Vis c.sc x := by first | exact .inl rfl | exact .inr (.inl rfl) | exact .inr (.inr rfl))
    (h1 : (x == ("__debug__" : Str)) = false := by decide) (h2 : (x == ("__classdict__" : Str)) = false := by decide) (hbase : ∀ env, attributeBase (.Name x p1) "append" env (eval (.Name x p1) env) = eval (.Name x p1) env := by intro _; rfl)
    (hfew : ∀ env, ((backTo p3 (starEach [e] env)).all (fun x => !x.1) && (backToKw p3 (keywordEach [] env)).all (fun x => x.1.isSome) && decide ([e].length + ([] : List Keyword).length + (if ([] : List Keyword).isEmpty then 0 else 1) < 30)) = true := by intro _; rfl)
    (hline : (p2.endLine == p3.line) = true := by rfl) (hst : ∀ env, starEach [e] env = (false, eval e env) :: starEach [] env := by intro _; rfl) (hl : ds.length ≤ 1000000 := by first | omega | (simp only [len_nums, List.length_append, List.length_map, List.length_cons, List.length_nil]; omega)) : EV c B (.Call (.Attribute (.Name x p1) "append" p2) [e] [] p3) sl false (.st .none) (sl.set i (s.put (.lst (ds ++ [d])))) :=
  ev_mut (ks := [.st d]) i PySem.F.plainAttrs_list PySem.F.slot_list_append PySem.F.type_list_append (fun _ _ => mt_append) (av_cons ha av_nil rfl hst) (fun B σ S H l vs xs I hk hx tx Q q => by
    obtain ⟨v, rfl, hv⟩ := one_arg hk
    exact ⟨l, xs, v, rfl, rfl, hx, by rw [tx.len, sizeLine_eq]; omega, q _ _ .non (tx.app (.one hv))⟩) hs ho hN hv h1 h2 hbase hfew hline hst (fun _ => rfl)
/-- x.append(e) -/
theorem go_append (i : Nat) {x : Str} (ha : EV c B e sl true (.st d) sl) (h3 : GO c B rest (sl.set i (s.put (.lst (ds ++ [d])))) R) (hs : sl[i]? = some s := by rfl) (ho : s.ow = some (.lst ds) := by rfl) (hN : c.N[i]? = some x := by rfl) (hv : Vis c.sc x := by first | exact .inl rfl | exact .inr (.inl rfl) | exact .inr (.inr rfl))
    (h1 : (x == ("__debug__" : Str)) = false := by decide) (h2 : (x == ("__classdict__" : Str)) = false := by decide) (hbase : ∀ env, attributeBase (.Name x p1) "append" env (eval (.Name x p1) env) = eval (.Name x p1) env := by intro _; rfl)
    (hfew : ∀ env, ((backTo p3 (starEach [e] env)).all (fun x => !x.1) && (backToKw p3 (keywordEach [] env)).all (fun x => x.1.isSome) && decide ([e].length + ([] : List Keyword).length + (if ([] : List Keyword).isEmpty then 0 else 1) < 30)) = true := by intro _; rfl)
    (hline : (p2.endLine == p3.line) = true := by rfl) (hst : ∀ env, starEach [e] env = (false, eval e env) :: starEach [] env := by intro _; rfl) (hl : ds.length ≤ 1000000 := by first | omega | (simp only [len_nums, List.length_append, List.length_map, List.length_cons, List.length_nil]; omega)) : GO c B (.Expr (.Call (.Attribute (.Name x p1) "append" p2) [e] [] p3) pos :: rest) sl R :=
  go_expr (ev_append i ha hs ho hN hv h1 h2 hbase hfew hline hst hl) h3 (fun _ => rfl)
/-- x[n] = e of a changing list -/
theorem go_setItem (i : Nat) {x : Str} {m : Int} {j : Nat} {tpos : Pos} (ha : EV c B e sl p (.st d) sl1) (hb : EV c B b sl1 true (.st (.int m)) sl1) (hj : ixN ds.length m = some j) (h3 : GO c B rest (sl1.set i (s.put (.lst (ds.set j d)))) R) (hs : sl1[i]? = some s := by rfl) (ho : s.ow = some (.lst ds) := by rfl) (hN : c.N[i]? = some x := by rfl) (hv : Vis c.sc x := by first | exact .inl rfl | exact .inr (.inl rfl) | exact .inr (.inr rfl))
    (h1 : (x == ("__debug__" : Str)) = false := by decide) (h2 : (x == ("__classdict__" : Str)) = false := by decide)
    (hsub : ∀ env v, assign (.Subscript (.Name x p1) b tpos) env v = (do
      let ov ← holding [v] (eval (.Name x p1) env)
      let iv ← holding [v, ov] (eval b env)
      standAt tpos
      holding [v, ov, iv] (setItem ov iv v)
      release [v, ov, iv] []) := by intro _ _; rfl)
    (hsw : ∀ env, swapsWithSole [.Subscript (.Name x p1) b tpos] e pos.line env = pure false := by intro _; rfl) (hw : ∀ env, swappedStores [.Subscript (.Name x p1) b tpos] e env = pure none := by intro _; rfl)
    (ht : ∀ env, (assignEach [.Subscript (.Name x p1) b tpos] env).map (·.2) = [assign (.Subscript (.Name x p1) b tpos) env] := by intro _; rfl) : GO c B (.Assign [.Subscript (.Name x p1) b tpos] e pos :: rest) sl R := by
  obtain ⟨te, ge, se⟩ := ha
  obtain ⟨tb, gb, sb⟩ := hb
  refine go_to (sl1 := sl1.set i (s.put (.lst (ds.set j d)))) ⟨tAsg te (gSub (tVar i) tb rSetL), fun X hX => ps_asg (ge X hX) (pg_sub (pe_var (by rw [hX.hN]; exact hN) (hX.v x hv) h1 h2) (gb X hX) set_list (hsub _)) (hsw _) (hw _) (ht _), fun S H σ I D q => ?_⟩ h3
  refine se S H σ I _ fun v S1 H1 I1 a1 x1 _ => ?_
  obtain ⟨l, el, nl, xs0, hx0, t0⟩ := I1.own hs ho
  refine ⟨.ref l, el, sb S1 H1 σ I1 _ fun w S2 H2 I2 a2 x2 _ => ?_⟩
  obtain ⟨l', el', nl', xs, hx, tx⟩ := I2.own hs ho
  rw [el] at el'
  cases el'
  refine ⟨l, xs, m, j, rfl, tr_int x2, hx, by rw [tx.len]; exact hj, ?_⟩
  have I3 := I2.mutate (u := .lst (xs.set j v)) hs ho (put_ow (o' := .lst (ds.set j d)) ho) put_kind el ⟨_, upd_same, tx.set (Tr.mono a2.s x1) j⟩
  exact q.nx S2 _ σ _ (a1.s.trans a2.s) I3 rfl

/-! ## list operators -/
def rCatQ (K : PySem.W.Frag) : R2 := fun x y H Q => ∃ l b xs zs, x = .ref l ∧ y = .ref b ∧ SqL K H l xs ∧ SqL K H b zs ∧ xs.length + zs.length ≤ sizeLine ∧ ∀ m, H m = none → Q (.ref m) (upd H m (.lst (xs ++ zs)))
theorem op_catQ {X : Cx} : OpR X (binaryOp .Add) (rCatQ X.K) := by
  intro pins s σ H x y v u Q I rx ry h
  obtain ⟨l, b, xs, zs, rfl, rfl, hl, hb, hz, q⟩ := h
  cases rx
  cases ry
  obtain ⟨its, r1, p1, _⟩ := I.list hl
  obtain ⟨its2, r2, p2, _⟩ := I.list hb
  obtain ⟨⟨cls, dd, data, sl⟩, n, ho, hc, hd, hs⟩ := p1
  obtain ⟨⟨cls2, dd2, data2, sl2⟩, n2, ho2, hc2, hd2, hs2⟩ := p2
  simp only at hc hd hs hc2 hd2 hs2
  subst hc hd hs hc2 hd2 hs2
  have e1 := r1.length
  have e2 := r2.length
  refine PySem.concat_meets ⟨_, ho, rfl⟩ ⟨_, ho2, rfl⟩ PySem.noFill_list_add PySem.seq_list_add PySem.F.slot_list_add PySem.F.entry_list_add (PySem.F.args_list_add_2 _ _)
    (PyProof.Rows.list_addW l b its.toArray its2.toArray n n2 none none sl sl2 (by simp only [List.size_toArray]; omega)) ⟨ho, ho2, ?_⟩
  have ea : its.toArray ++ its2.toArray = (its ++ its2).toArray := by simp
  rw [ea]
  exact ⟨.ref _, _, I.lnew (t' := s.toks) (r1.append r2) (by rw [List.length_append]; omega), rfl, q _ I.fresh⟩
theorem ev_cat (ha : EV c B a sl p k1 sl1) (hb : EV c B b sl1 true k2 sl2) (h1 : LsK k1 ds := by first | exact .st | exact .ls | exact .fr) (h2 : LsK k2 ds' := by first | exact .st | exact .ls | exact .fr) (hz : ds.length + ds'.length ≤ 1000000) : EV c B (.BinOp a .Add b pos) sl p (.fr (.lst (ds ++ ds'))) sl2 := by
  have h := ev_bin (pos := pos) (op := .Add) (r := rCatQ c.K) (k := .fr (.lst (ds ++ ds'))) (fun X hX => by rw [← hX.hK]; exact op_catQ) (fun B σ sl S H x y I hx hy Q q => by
    obtain ⟨l, xs, rfl, hl, tx⟩ := h1.rd I hx
    obtain ⟨m, ys, rfl, hm, ty⟩ := h2.rd I hy
    exact ⟨l, m, xs, ys, rfl, rfl, hl, hm, by rw [tx.len, ty.len, sizeLine_eq]; omega, fun z hn => q.fresh I hn (tx.app ty)⟩) ha hb rfl
  rwa [Bool.and_true] at h
/-- [..] * n, the list just made -/
theorem ev_rep {m : Int} (ha : EV c B a sl p (.fr (.lst ds)) sl1) (hb : EV c B b sl1 q (.st (.int m)) sl2) (hm : -(2 ^ 63) ≤ m ∧ m < 2 ^ 63) (hz : ds.length * m.toNat ≤ 1000000) : EV c B (.BinOp a .Mult b pos) sl (p && q) (.fr (.lst (List.replicate m.toNat ds).flatten)) sl2 :=
  ev_bin (pos := pos) (op := .Mult) (r := rRep) (k := .fr (.lst (List.replicate m.toNat ds).flatten)) (fun X hX => op_rep) (fun B σ sl S H x y I hx hy Q q => by
    obtain ⟨l, xs, rfl, hl, tx⟩ := frL hx
    exact ⟨l, m, xs, rfl, tr_int hy, hl, hm.1, hm.2, by rw [tx.len, sizeLine_eq]; omega, fun z hn => q.fresh I hn (Trs.repl _ tx)⟩) ha hb (by simp [Kd.firm])
/-- x + e, x a changing list, e may change others -/
theorem ev_catA (i : Nat) {s : Sl} {ds ds' : List PyData} (ha : EV c B a sl p (.at i) sl1) (hb : EV c B b sl1 q k2 sl2) (hs : sl2[i]? = some s := by rfl) (ho : s.ow = some (.lst ds) := by rfl) (h2 : LsK k2 ds' := by first | exact .st | exact .ls | exact .fr) (hz : ds.length + ds'.length ≤ 1000000) : EV c B (.BinOp a .Add b pos) sl (p && q) (.fr (.lst (ds ++ ds'))) sl2 := by
  obtain ⟨ta, ga, sa⟩ := ha
  obtain ⟨tb, gb, sb⟩ := hb
  refine ⟨tOp (rCatQ c.K) ta tb, fun X hX => pe_op (by rw [← hX.hK]; exact op_catQ) (ga X hX) (gb X hX), fun S H σ I Q fn => ?_⟩
  refine sa S H σ I _ fun x S1 H1 I1 a1 x1 f1 => sb S1 H1 σ I1 _ fun y S2 H2 I2 a2 x2 f2 => ?_
  obtain ⟨l, el, nl, xs, hx, tx⟩ := I2.own hs ho
  have x1' : σ[i]? = some (some x) := x1
  rw [el] at x1'
  cases x1'
  obtain ⟨m, ys, rfl, hm, ty⟩ := h2.rd I2 x2
  exact ⟨l, m, xs, ys, rfl, rfl, .inl (.inl hx), hm, by rw [tx.len, ty.len, sizeLine_eq]; omega, fun z hn => (Mw.fin fn (a1.trans a2) fun h => h).fresh I2 hn (tx.app ty)⟩
end

/-! ## defs -/
structure FnG (P : Program) (w : World) (K : PySem.W.Frag) (mg : Str → Option Value) (base : Heap) (lv : Nat) (f : Addr) (fd : FuncData) (ps : List Str) (sp : Sp) : Prop where
  len : ∀ vs H Q E, sp vs H Q E → vs.length = ps.length
  run : ∀ (A : Around) (outer : List Env) (s : Shared) (H : Hp) (args : Args) (us : List Value) (vs : List V) (Q : VK) (E : XK), Room lv A → A.guards = some [] → Env0 P w K mg base A outer s H → BindsTo s fd args (ps.zip us) → Vals vs us → sp vs H Q E →
    codeAny (model P w) A (.call (.ref f) args) (CR (L2.CX P w) outer P w H s Q E) s
theorem FnG.mono {P : Program} {w : World} {K : PySem.W.Frag} {mg : Str → Option Value} {base : Heap} {j k : Nat} {f : Addr} {fd : FuncData} {ps : List Str} {sp : Sp} (F : FnG P w K mg base j f fd ps sp) (h : j ≤ k) : FnG P w K mg base k f fd ps sp :=
  ⟨F.len, fun A outer s H args us vs Q E hr hg => F.run A outer s H args us vs Q E (hr.mono h) hg⟩
theorem FnG.imp {P : Program} {w : World} {K : PySem.W.Frag} {mg : Str → Option Value} {base : Heap} {k : Nat} {f : Addr} {fd : FuncData} {ps : List Str} {sp sp' : Sp} (F : FnG P w K mg base k f fd ps sp) (h : ∀ vs H Q E, sp' vs H Q E → sp vs H Q E) : FnG P w K mg base k f fd ps sp' :=
  ⟨fun vs H Q E q => F.len vs H Q E (h _ _ _ _ q), fun A outer s H args us vs Q E hr hg he hb hv hs => F.run A outer s H args us vs Q E hr hg he hb hv (h _ _ _ _ hs)⟩
theorem fnG_of {P : Program} {w : World} {K : PySem.W.Frag} {mg : Str → Option Value} {base : Heap} {x qual : Str} {st : Stmt} {f : Addr} {fd : FuncData} {N ps : List Str} {lv : Nat} {sp : Sp} (F : Fun K x qual st f fd) (Sc : FnScope N ps (defScope st)) (len : ∀ vs H Q E, sp vs H Q E → vs.length = ps.length)
    (hbody : ∀ (E : XK) (vs : List V) (H : Hp) (Q : VK), sp vs H Q E → ∃ t, (∀ X, InCx ⟨P, w, K, mg, base, N, defScope st, lv, fun cls d _ H => E cls d H, true, ⟨fd.code, qual ++ ".<locals>.", fun _ => True⟩⟩ X → PSs X (defBody st) t) ∧ t { nx := fun _ H' => Q .non H', rt := Q } (start N vs) H) : FnG P w K mg base (lv + 1) f fd ps sp := by
  obtain ⟨oc, od, kV, doc, pm, an, cdv, ct, osl, rfl, lk, hcd⟩ := F.ex
  refine ⟨len, fun A outer s H args us vs Q E hr hgu e0 hb r hsp => ?_⟩
  have hl := len _ _ _ _ hsp
  have KX : K.In s.heap := e0.mod.kin.keeps fun b o e => (e0.bs b o e).1
  have lim : s.heap.NoLimit := e0.mod.nolimit.keeps fun b o e => (e0.bs b o e).1
  refine codeAny_call_function hr.depth (KX _ _ lk) rfl Sc.co Sc.gen rfl (PySem.W.codeRec_of KX hcd) (hb _ _ _ _ ?_)
  refine wpAny_newFunctionEnv_cells Sc.kind (fun ⟨n, v⟩ hy => ?_) fun env he s1 x => ?_
  · rcases Sc.par n (List.of_mem_zip hy).1 with q | q
    · exact .inl q
    · exact .inr ⟨q, PySem.W.cellsFrom_some _ _ _ (.inl q)⟩
  · subst he
    refine ⟨lim.keeps x.toInCall.keep, codeAny_func ?_⟩
    obtain ⟨t, ht, hq⟩ := hbody E vs H Q hsp
    have I : Inv (cxOf (L2.CX P w) P w K mg base N qual (defScope st) f cdv A outer s H E) [] (start N vs) H s1 := inv_start Sc hr.hd e0 hl r x
    have hX : InCx ⟨P, w, K, mg, base, N, defScope st, lv, fun cls d _ H => E cls d H, true, ⟨cdv, qual ++ ".<locals>.", fun _ => True⟩⟩ (cxOf (L2.CX P w) P w K mg base N qual (defScope st) f cdv A outer s H E) :=
      ⟨rfl, rfl, rfl, rfl, rfl, rfl, rfl, Sc.kind, hgu, hr.deeper _, fun _ h => h, fun _ h => h, fun _ h => h, fun _ h => h, fun _ h => ⟨h, rfl⟩, passes_of rfl, takes_of rfl rfl rfl rfl, fun _ => ⟨rfl, rfl, rfl⟩, rfl, rfl, fun _ _ => trivial⟩
    refine wpAny_mono ((ht _ hX).run [] s1 (start N vs) H _ I hq) (fun fl s' hs => ?_) fun e s' hs => hs
    cases fl with
    | ret u =>
      obtain ⟨v, σ', H', J, rv, q⟩ := hs
      exact ⟨v, H', J.os, J.bare, J.base, J.hok, rv, q⟩
    | next =>
      obtain ⟨σ', H', J, q⟩ := hs
      exact ⟨V.non, H', J.os, J.bare, J.base, J.hok, rfl, q⟩
    | brk =>
      obtain ⟨_, _, _, q⟩ := hs
      exact False.elim q
    | cont =>
      obtain ⟨_, _, _, q⟩ := hs
      exact False.elim q

/-! ### promises by trees -/
/-- how a call ends -/
inductive Out where
  | ret (k : Kd)
  | exn (x : Exn)
/-- from the arguments' slots: how it ends, the slots then -/
abbrev Rel := List Sl → Out → List Sl → Prop
def Prm (K : PySem.W.Frag) (mg : Str → Option Value) (R : Rel) : Sp := fun vs H Q E => ∃ (S : Hp) (ls : List Addr) (cs : List Sl) (u : Out) (cs' : List Sl), R cs u cs' ∧ Stt K ⟨S, H, ls⟩ S H (vs.map some) cs ∧
  match u with
  | .ret k => ∀ v S' H', Stt K ⟨S, H, ls⟩ S' H' (vs.map some) cs' → KdOk K ⟨S, H, ls⟩ (vs.map some) cs' S' H' v k → Q v H'
  | .exn x => ∀ cls dx S' H', Stt K ⟨S, H, ls⟩ S' H' (vs.map some) cs' → ExnOk K mg S' cls dx x → E cls dx H'
/-- what was handed in to be changed is still known -/
def IoIn (cs' sl : List Sl) : Prop := ∀ (i : Nat) (j : Nat) (o : Ow), cs'[i]? = some (.io j o) → ∃ i' : Nat, sl[i']? = some (.io j o)
/-- the same arguments, but for the contents of what is changed -/
inductive Shp : List Sl → List Sl → Prop
  | nil : Shp [] []
  | val {d : PyData} {cs cs' : List Sl} (t : Shp cs cs') : Shp (.val d :: cs) (.val d :: cs')
  | raw {v : V} {cs cs' : List Sl} (t : Shp cs cs') : Shp (.raw v :: cs) (.raw v :: cs')
  | io {j : Nat} {o o' : Ow} {cs cs' : List Sl} (t : Shp cs cs') : Shp (.io j o :: cs) (.io j o' :: cs')
theorem Shp.len {cs cs' : List Sl} (h : Shp cs cs') : cs.length = cs'.length := by induction h <;> simp_all
theorem Shp.at {cs cs' : List Sl} (h : Shp cs cs') : ∀ (i : Nat) (s' : Sl), cs'[i]? = some s' → ∃ s, cs[i]? = some s ∧ ((∃ d, s = .val d ∧ s' = .val d) ∨ (∃ v, s = .raw v ∧ s' = .raw v) ∨ ∃ j o o', s = .io j o ∧ s' = .io j o') := by
  induction h with
  | nil => intro i s' e; simp at e
  | val t ih =>
    intro i s' e
    cases i with
    | zero => simp at e; subst e; exact ⟨_, rfl, .inl ⟨_, rfl, rfl⟩⟩
    | succ i => exact ih i s' (by simpa using e)
  | raw t ih =>
    intro i s' e
    cases i with
    | zero => simp at e; subst e; exact ⟨_, rfl, .inr (.inl ⟨_, rfl, rfl⟩)⟩
    | succ i => exact ih i s' (by simpa using e)
  | io t ih =>
    intro i s' e
    cases i with
    | zero => simp at e; subst e; exact ⟨_, rfl, .inr (.inr ⟨_, _, _, rfl, rfl⟩)⟩
    | succ i => exact ih i s' (by simpa using e)
def pad (cs : List Sl) (n : Nat) : List Sl := cs ++ List.replicate (n - cs.length) .no
section
variable {P : Program} {w : World} {K : PySem.W.Frag} {mg : Str → Option Value} {base : Heap}
/-- the arguments behind a body -/
theorem args_back {S H S' H' : Hp} {ls : List Addr} {σ σ' : L2.St} {cs cs' sl : List Sl} (I0 : Stt K ⟨S, H, ls⟩ S H σ cs) (sh : Shp cs cs') (I : Stt K ⟨S, H, ls⟩ S' H' σ' sl) (io : IoIn cs' sl) : Stt K ⟨S, H, ls⟩ S' H' σ cs' where
  s0 := I.s0
  sh := I.sh
  new := I.new
  keep := I.keep
  dom := I.dom
  lsd := I.lsd
  len := I0.len.trans sh.len
  slot := fun i s' e => by
    obtain ⟨s, es, h⟩ := sh.at i s' e
    obtain ⟨x, hx, ok⟩ := I0.slot i s es
    refine ⟨x, hx, ?_⟩
    rcases h with ⟨d, rfl, rfl⟩ | ⟨v, rfl, rfl⟩ | ⟨j, o, o', rfl, rfl⟩
    · obtain ⟨v, e1, t⟩ := ok
      exact ⟨v, e1, t.mono I.s0⟩
    · exact ok
    · obtain ⟨l, e1, n, ow, hj⟩ := ok
      obtain ⟨i', hi'⟩ := io i j o' e
      obtain ⟨y, hy, l', e2, n2, ow2, hj2⟩ := I.slot i' _ hi'
      have hj' : ls[j]? = some l := hj
      have hj2' : ls[j]? = some l' := hj2
      rw [hj'] at hj2'
      cases hj2'
      exact ⟨l, e1, n2, ow2, hj⟩
  dis := fun i j a y1 y2 => by
    have go : ∀ {m : Nat}, FpAt σ cs' m a → FpAt σ cs m a := fun {m} y => by
      obtain ⟨s, x, h1, h2, h3⟩ := y
      obtain ⟨s3, e3, h⟩ := sh.at m s h1
      rcases h with ⟨d, rfl, rfl⟩ | ⟨v, rfl, rfl⟩ | ⟨j, o, o', rfl, rfl⟩
      · exact absurd h3 fpS_val
      · exact absurd h3 fpS_raw
      · exact ⟨_, x, e3, h2, fpS_io.mpr (fpS_io.mp h3)⟩
    exact I0.dis i j a (go y1) (go y2)
  tabs := I.tabs
  tbk := I.tbk
  snt := I.snt
  sm := I.sm
theorem pad_get {cs : List Sl} {n i : Nat} {s : Sl} (h : (pad cs n)[i]? = some s) : cs[i]? = some s ∨ s = .no := by
  unfold pad at h
  by_cases hi : i < cs.length
  · rw [List.getElem?_append_left hi] at h
    exact .inl h
  · rw [List.getElem?_append_right (by omega), List.getElem?_replicate] at h
    split at h
    · cases h; exact .inr rfl
    · cases h
theorem start_stt {S H : Hp} {ls : List Addr} {vs : List V} {cs : List Sl} {N : List Str} (hN : vs.length ≤ N.length) (I : Stt K ⟨S, H, ls⟩ S H (vs.map some) cs) : Stt K ⟨S, H, ls⟩ S H (start N vs) (pad cs N.length) := by
  have hl : vs.length = cs.length := by have := I.len; rwa [List.length_map] at this
  have get : ∀ {i : Nat} {x : Option V}, (vs.map some)[i]? = some x → (start N vs)[i]? = some x := fun {i x} e => by
    unfold L2.start
    rw [List.getElem?_append_left (List.getElem?_eq_some_iff.mp e).1]
    exact e
  refine ⟨I.s0, I.sh, I.new, I.keep, I.dom, I.lsd, ?_, fun i s e => ?_, fun i j a y1 y2 => ?_, I.tabs, I.tbk, I.snt, I.sm⟩
  · unfold L2.start pad
    simp only [List.length_append, List.length_map, List.length_replicate]
    omega
  · rcases pad_get e with e1 | rfl
    · obtain ⟨x, hx, ok⟩ := I.slot i s e1
      exact ⟨x, get hx, ok⟩
    · have hi : i < (start N vs).length := by
        have := (List.getElem?_eq_some_iff.mp e).1
        unfold pad at this
        unfold L2.start
        simp only [List.length_append, List.length_map, List.length_replicate] at this ⊢
        omega
      exact ⟨_, List.getElem?_eq_getElem hi, trivial⟩
  · have go : ∀ {m : Nat}, FpAt (start N vs) (pad cs N.length) m a → FpAt (vs.map some) cs m a := fun {m} y => by
      obtain ⟨s, x, h1, h2, h3⟩ := y
      rcases pad_get h1 with e1 | rfl
      · obtain ⟨x', hx', _⟩ := I.slot m s e1
        have z := get hx'
        rw [h2] at z
        cases z
        exact ⟨s, x, e1, hx', h3⟩
      · exact absurd h3 fpS_no
    exact I.dis i j a (go y1) (go y2)
/-- what a body must do for its promise -/
abbrev toRtX (u : Out) (cs' : List Sl) : Rt := { nx := fun sl => u = .ret (.st .none) ∧ IoIn cs' sl, rt := fun k' sl => u = .ret k' ∧ IoIn cs' sl, ex := fun x sl => u = .exn x ∧ IoIn cs' sl }
abbrev toRt (k : Kd) (cs' : List Sl) : Rt := { nx := fun sl => k = .st .none ∧ IoIn cs' sl, rt := fun k' sl => k' = k ∧ IoIn cs' sl }
def Out.ok : Out → Prop
  | .ret k => k.firm = true ∧ ∀ i, k ≠ .at i
  | .exn _ => True
/-- nothing that is new behind a body is of an argument -/
theorem new_apart {S H S' H' : Hp} {ls : List Addr} {σ σ' : L2.St} {cs cs' sl : List Sl} (sh : Shp cs cs') (J : Stt K ⟨S, H, ls⟩ S' H' σ cs') (I' : Stt K ⟨S, H, ls⟩ S' H' σ' sl) (io : IoIn cs' sl) {l : Addr} (na : ¬ OwnAt σ' sl l) : ¬ OwnAt σ cs' l := fun ⟨i, s2, x, e1, e2, w2⟩ => by
  obtain ⟨s3, e3, h3⟩ := sh.at i s2 e1
  rcases h3 with ⟨d, rfl, rfl⟩ | ⟨u, rfl, rfl⟩ | ⟨j, o3, o4, rfl, rfl⟩
  · exact fpS_val w2
  · exact fpS_raw w2
  · obtain ⟨y, hy, l2, e4, _, _, hj⟩ := J.slot i _ e1
    rw [e2] at hy
    cases hy
    have w2 := fpS_io.mp w2
    rw [e4] at w2
    cases w2
    obtain ⟨i', hi'⟩ := io i j o4 e1
    obtain ⟨y, hy, l3, e5, _, _, hj3⟩ := I'.slot i' _ hi'
    have a1 : ls[j]? = some l := hj
    have a2 : ls[j]? = some l3 := hj3
    rw [a1] at a2
    cases a2
    exact na ⟨i', _, y, hi', hy, fpS_io.mpr e5⟩
theorem prm_of {x qual : Str} {st : Stmt} {f : Addr} {fd : FuncData} {N ps : List Str} {lv : Nat} {R : Rel} (F : Fun K x qual st f fd) (Sc : FnScope N ps (defScope st)) (hlen : ∀ cs u cs', R cs u cs' → cs.length = ps.length ∧ Shp cs cs')
    (hk : ∀ cs u cs', R cs u cs' → u.ok)
    (body : ∀ (E : XK) (B : Bs) (cs : List Sl) (u : Out) (cs' : List Sl), R cs u cs' → GO ⟨P, w, K, mg, base, N, defScope st, lv, fun cls d _ H => E cls d H, true, ⟨fd.code, qual ++ ".<locals>.", fun _ => True⟩⟩ B (defBody st) (pad cs N.length) (toRtX u cs')) : FnG P w K mg base (lv + 1) f fd ps (Prm K mg R) := by
  have hps : ps.length ≤ N.length := by have := congrArg List.length Sc.pre; rw [List.length_take] at this; omega
  refine fnG_of F Sc (fun vs H Q E h => ?_) fun E vs H Q h => ?_
  · obtain ⟨S, ls, cs, k, cs', hR, I, _⟩ := h
    have := I.len
    rw [List.length_map] at this
    rw [this]
    exact (hlen _ _ _ hR).1
  · obtain ⟨S, ls, cs, u, cs', hR, I, q⟩ := h
    obtain ⟨h1, shp⟩ := hlen _ _ _ hR
    have hvl : vs.length = cs.length := by have := I.len; rwa [List.length_map] at this
    obtain ⟨t, ht, sem⟩ := body E ⟨S, H, ls⟩ cs u cs' hR
    refine ⟨t, ht, sem S H (start N vs) (start_stt (by omega) I) _ ⟨fun S' H' σ' sl' s I' ⟨hk0, io⟩ => ?_, fun S' H' σ' sl' v k' s I' x ⟨hk0, io⟩ => ?_, fun S' H' σ' sl' s I' z => False.elim z, fun S' H' σ' sl' s I' z => False.elim z, fun S' H' σ' sl' cls dx x s I' z ⟨hk0, io⟩ => ?_⟩⟩
    · subst hk0
      exact q .non S' H' (args_back I shp I' io) .non
    · subst hk0
      have J := args_back I shp I' io
      refine q v S' H' J ?_
      obtain ⟨hf, hat⟩ := hk _ _ _ hR
      cases k' with
      | st d => exact x
      | ls ds => cases hf
      | nw ds => cases hf
      | ft ds =>
        obtain ⟨fp, t, nd, hG⟩ := x
        exact ⟨fp, t, nd, fun a m => ⟨(hG a m).1, (hG a m).2.1, new_apart shp J I' io (hG a m).2.2⟩⟩
      | raw u => exact x
      | «at» i => exact absurd rfl (hat i)
      | fr o =>
        obtain ⟨l, e, n, n0, ow, na⟩ := x
        exact ⟨l, e, n, n0, ow, new_apart shp J I' io na⟩
    · subst hk0
      exact q cls dx S' H' (args_back I shp I' io) z
end
end Mw

/-! MwG: calls of defs; the end of a law. -/
namespace Mw
open PySem PySem.Spec L2
variable [Tb]

structure DefOk (P : Program) (w : World) (K : PySem.W.Frag) (mg : Str → Option Value) (base : Heap) (x : Str) (st : Stmt) (ps : List Str) (lv : Nat) (sp : Sp) : Prop where
  ex : ∃ f fd, mg x = some (.ref f) ∧ Fun K x x st f fd ∧ Binds K fd ps [] ∧ FnG P w K mg base lv f fd ps sp
/-- the same, however it binds -/
structure DefK (P : Program) (w : World) (K : PySem.W.Frag) (mg : Str → Option Value) (base : Heap) (x : Str) (st : Stmt) (ps : List Str) (lv : Nat) (sp : Sp) : Prop where
  ex : ∃ f fd, mg x = some (.ref f) ∧ Fun K x x st f fd ∧ FnG P w K mg base lv f fd ps sp
/-- called by position, the last parameters have the defaults dvs -/
structure DefD (P : Program) (w : World) (K : PySem.W.Frag) (mg : Str → Option Value) (base : Heap) (x : Str) (st : Stmt) (ps : List Str) (lv : Nat) (sp : Sp) (dvs : List V) : Prop where
  ex : ∃ f fd, mg x = some (.ref f) ∧ Fun K x x st f fd ∧ (∃ ds, Vals dvs ds ∧ Binds K fd ps ds) ∧ FnG P w K mg base lv f fd ps sp
theorem DefOk.toK {P : Program} {w : World} {K : PySem.W.Frag} {mg : Str → Option Value} {base : Heap} {x : Str} {st : Stmt} {ps : List Str} {lv : Nat} {sp : Sp} (h : DefOk P w K mg base x st ps lv sp) : DefK P w K mg base x st ps lv sp := by
  obtain ⟨f, fd, a, b, c, d⟩ := h.ex
  exact ⟨f, fd, a, b, d⟩
theorem DefD.toK {P : Program} {w : World} {K : PySem.W.Frag} {mg : Str → Option Value} {base : Heap} {x : Str} {st : Stmt} {ps : List Str} {lv : Nat} {sp : Sp} {dvs : List V} (h : DefD P w K mg base x st ps lv sp dvs) : DefK P w K mg base x st ps lv sp := by
  obtain ⟨f, fd, a, b, c, d⟩ := h.ex
  exact ⟨f, fd, a, b, d⟩
abbrev CxD.DefK (c : CxD) (x : Str) (st : Stmt) (ps : List Str) (lv : Nat) (sp : Sp) : Prop := Mw.DefK c.P c.w c.K c.mg c.base x st ps lv sp
abbrev CxD.Def (c : CxD) (x : Str) (st : Stmt) (ps : List Str) (lv : Nat) (sp : Sp) : Prop := DefOk c.P c.w c.K c.mg c.base x st ps lv sp

section
variable {X : Cx} {lv : Nat} {f : Addr} {fd : FuncData} {ps ks : List Str} {sp : Sp} {W : WX} {x : Str} {p pos : Pos} {e : Expr} {es : List Expr} {kws : List Keyword} {t tk : TA}
theorem runG {pins : List (Addr × Obj)} {σ : L2.St} {H : Hp} {s : Shared} {Q : VK} {args : Args} {us : List Value} {vs : List V} (F : FnG X.prog X.w X.K X.mg X.base lv f fd ps sp) (hr : Room lv X.A) (hgu : X.A.guards = some []) (tk : Takes X W) (I : Inv X pins σ H s)
    (hb : BindsTo s fd args (ps.zip us)) (r : Vals vs us) (h : sp vs H Q fun cls d H' => W cls d σ H') : codeAny (model X.prog X.w) X.A (.call (.ref f) args) (fun r s' => match r with | .ok (.ret u) => EP X pins σ Q u s' | .ok _ => False | .error e => X.xe e s') s := by
  refine codeAny_mono (F.run X.A X.stack s H args us vs Q _ hr hgu I.env0 hb r h) fun r s' hq => ?_
  cases r with
  | error e => exact tk e s' (XE.of_call I (fun cls d H' z => z) hq)
  | ok fl =>
    cases fl with
    | ret u => exact I.after hq
    | next => exact False.elim hq
    | brk => exact False.elim hq
    | cont => exact False.elim hq
theorem wp_runG {pins : List (Addr × Obj)} {σ : L2.St} {H : Hp} {s : Shared} {Q : VK} {us0 : List Value} {kw : List (Str × Value)} {us : List Value} {vs : List V} (F : FnG X.prog X.w X.K X.mg X.base lv f fd ps sp) (hr : Room lv X.A) (hgu : X.A.guards = some []) (tk : Takes X W) (I : Inv X pins σ H s)
    (hb : BindsTo s fd ⟨us0, kw⟩ (ps.zip us)) (r : Vals vs us) (h : sp vs H Q fun cls d H' => W cls d σ H') : wpAny (model X.prog X.w) X.A (call (.ref f) us0 kw) (EP X pins σ Q) X.xe s := by
  refine wpAny_call (codeAny_mono (runG F hr hgu tk I hb r h) fun r s' hq => ?_)
  cases r with
  | error e => exact hq
  | ok fl =>
    cases fl with
    | ret u => exact hq
    | next => exact False.elim hq
    | brk => exact False.elim hq
    | cont => exact False.elim hq
/-- f(e, ..) -/
theorem pe_callG (F : FnG X.prog X.w X.K X.mg X.base lv f fd ps sp) (hr : Room lv X.A) (hgu : X.A.guards = some []) (tk : Takes X W) (hg : Gl X x) (hm : X.mg x = some (.ref f)) (hk : PySem.W.keepIn X.K (.ref f) = true) (hb : Binds X.K fd ps [])
    (ha : PA X (e :: es) t) (hdb : (x == ("__debug__" : Str)) = false) (he : starEach (e :: es) X.env = (false, eval e X.env) :: starEach es X.env) (hpl : (backTo pos (starEach es X.env)).any (·.1) = false) :
    PE X (.Call (.Name x p) (e :: es) [] pos) (fun σ H Q => t σ H fun vs H1 => sp vs H1 Q fun cls d H' => W cls d σ H') := by
  refine ⟨fun pins s σ H Q I h => ?_⟩
  refine wpAny_Call_Name_kw (ld_glob I hg hm ?_ hdb)
  refine PySem.W.callWith_K (h₀ := X.base) I.ok.mod.kin hk (thn (ha.run pos pins s σ H _ I h) fun us s1 ⟨vs, H1, I1, r, q⟩ => ⟨I1.kIn, ?_⟩) he hpl
  have hl : (us ++ []).length = ps.length := by rw [List.append_nil, ← r.length]; exact F.len _ _ _ _ q
  have hb' := hb s1 us I1.kIn hl
  rw [List.append_nil] at hb'
  exact wp_runG F hr hgu tk I1 hb' r q
/-- f(e, ..), the last parameters by their defaults -/
theorem pe_callGD {dvs : List V} {ds : List Value} (F : FnG X.prog X.w X.K X.mg X.base lv f fd ps sp) (hr : Room lv X.A) (hgu : X.A.guards = some []) (tk : Takes X W) (hg : Gl X x) (hm : X.mg x = some (.ref f)) (hk : PySem.W.keepIn X.K (.ref f) = true) (hb : Binds X.K fd ps ds) (hds : Vals dvs ds)
    (ha : PA X (e :: es) t) (hdb : (x == ("__debug__" : Str)) = false) (he : starEach (e :: es) X.env = (false, eval e X.env) :: starEach es X.env) (hpl : (backTo pos (starEach es X.env)).any (·.1) = false) :
    PE X (.Call (.Name x p) (e :: es) [] pos) (fun σ H Q => t σ H fun vs H1 => sp (vs ++ dvs) H1 Q fun cls d H' => W cls d σ H') := by
  refine ⟨fun pins s σ H Q I h => ?_⟩
  refine wpAny_Call_Name_kw (ld_glob I hg hm ?_ hdb)
  refine PySem.W.callWith_K (h₀ := X.base) I.ok.mod.kin hk (thn (ha.run pos pins s σ H _ I h) fun us s1 ⟨vs, H1, I1, r, q⟩ => ⟨I1.kIn, ?_⟩) he hpl
  have r2 := r.append hds
  have hl : (us ++ ds).length = ps.length := by rw [← r2.length]; exact F.len _ _ _ _ q
  have hb' := hb s1 us I1.kIn hl
  exact wp_runG F hr hgu tk I1 hb' r2 q
/-- f() -/
theorem pe_callG0 (F : FnG X.prog X.w X.K X.mg X.base lv f fd ps sp) (hr : Room lv X.A) (hgu : X.A.guards = some []) (tk : Takes X W) (hg : Gl X x) (hm : X.mg x = some (.ref f)) (hk : PySem.W.keepIn X.K (.ref f) = true) (hb : Binds X.K fd ps [])
    (hdb : (x == ("__debug__" : Str)) = false) : PE X (.Call (.Name x p) [] [] pos) (fun σ H Q => sp [] H Q fun cls d H' => W cls d σ H') := by
  refine ⟨fun pins s σ H Q I h => ?_⟩
  refine wpAny_Call_Name_kw (ld_glob I hg hm ?_ hdb)
  refine PySem.W.callWith_K0 I.kIn hk ?_
  have hl : ([] ++ [] : List Value).length = ps.length := by show ([] : List V).length = _; exact F.len _ _ _ _ h
  have hb' := hb s [] I.kIn hl
  exact wp_runG F hr hgu tk I hb' .nil h
/-- the parameters' values out of the written arguments: the places, one a parameter -/
def pick {α : Type} (l : List α) (ix : List Nat) : List α := ix.filterMap fun i => l[i]?
theorem Vals.pick {vs : List V} {us : List Value} (r : Vals vs us) : ∀ ix : List Nat, Vals (Mw.pick vs ix) (Mw.pick us ix)
  | [] => .nil
  | i :: ix => by
    have ih := Vals.pick r ix
    unfold Mw.pick at ih ⊢
    cases e : vs[i]? with
    | none =>
      rw [List.filterMap_cons_none e, List.filterMap_cons_none (r.none_of e)]
      exact ih
    | some v =>
      obtain ⟨u, hu, rv⟩ := r.get e
      rw [List.filterMap_cons_some e, List.filterMap_cons_some hu]
      exact .cons rv ih
/-- how a call with n positional arguments and the keywords ks binds -/
def KwB (K : PySem.W.Frag) (fd : FuncData) (ps ks : List Str) (n : Nat) (ix : List Nat) : Prop := ∀ (s : Shared) (us ws : List Value), K.In s.heap → us.length = n → ws.length = ks.length → BindsTo s fd ⟨us, ks.zip ws⟩ (ps.zip (pick (us ++ ws) ix))
/-- f(k = e, ..) -/
theorem pe_callGK0 {ix : List Nat} (F : FnG X.prog X.w X.K X.mg X.base lv f fd ps sp) (hr : Room lv X.A) (hgu : X.A.guards = some []) (tkk : Takes X W) (hg : Gl X x) (hm : X.mg x = some (.ref f)) (hk : PySem.W.keepIn X.K (.ref f) = true) (hb : KwB X.K fd ps ks 0 ix)
    (hkw : PK X kws tk) (hln : kws.length = ks.length) (hall : (backToKw pos (keywordEach kws X.env)).all (·.1.isSome) = true) (hks : (backToKw pos (keywordEach kws X.env)).filterMap (·.1) = ks) (hdb : (x == ("__debug__" : Str)) = false)
    (hpl : ((backTo pos (starEach [] X.env)).any (·.1) || (backToKw pos (keywordEach kws X.env)).any (·.1.isNone)) = false) :
    PE X (.Call (.Name x p) [] kws pos) (fun σ H Q => tk σ H fun vs H1 => vs.length = kws.length ∧ sp (pick vs ix) H1 Q fun cls d H' => W cls d σ H') := by
  refine ⟨fun pins s σ H Q I h => ?_⟩
  refine wpAny_Call_Name_kw (ld_glob I hg hm ?_ hdb)
  refine PySem.W.callWith_KW0 (h₀ := X.base) I.ok.mod.kin hk hall (thn (hkw.run pos pins s σ H _ I h) fun ws s1 ⟨vs, H1, I1, r, hl, q⟩ => ⟨I1.kIn, ?_⟩) hpl
  rw [hks]
  have hb' := hb s1 [] ws I1.kIn rfl (by rw [← r.length, hl, hln])
  exact wp_runG F hr hgu tkk I1 hb' (by simpa using Vals.pick r ix) q
/-- f(e, .., k = e, ..) -/
theorem pe_callGK {ix : List Nat} {n : Nat} (F : FnG X.prog X.w X.K X.mg X.base lv f fd ps sp) (hr : Room lv X.A) (hgu : X.A.guards = some []) (tkk : Takes X W) (hg : Gl X x) (hm : X.mg x = some (.ref f)) (hk : PySem.W.keepIn X.K (.ref f) = true) (hb : KwB X.K fd ps ks n ix)
    (ha : PA X (e :: es) t) (hkw : PK X kws tk) (hln : kws.length = ks.length) (hn : (e :: es).length = n) (hall : (backToKw pos (keywordEach kws X.env)).all (·.1.isSome) = true) (hks : (backToKw pos (keywordEach kws X.env)).filterMap (·.1) = ks) (hdb : (x == ("__debug__" : Str)) = false)
    (he : starEach (e :: es) X.env = (false, eval e X.env) :: starEach es X.env) (hpl : ((backTo pos (starEach (e :: es) X.env)).any (·.1) || (backToKw pos (keywordEach kws X.env)).any (·.1.isNone)) = false) :
    PE X (.Call (.Name x p) (e :: es) kws pos) (fun σ H Q => t σ H fun vs H1 => vs.length = (e :: es).length ∧ tk σ H1 fun ws H2 => ws.length = kws.length ∧ sp (pick (vs ++ ws) ix) H2 Q fun cls d H' => W cls d σ H') := by
  refine ⟨fun pins s σ H Q I h => ?_⟩
  refine wpAny_Call_Name_kw (ld_glob I hg hm ?_ hdb)
  refine PySem.W.callWith_KW (h₀ := X.base) I.ok.mod.kin hk hall (thn (ha.run pos pins s σ H _ I h) fun us s0 ⟨vs, H0, I0, r0, hl0, q0⟩ => thn (hkw.run pos pins s0 σ H0 _ I0 q0) fun ws s1 ⟨zs, H1, I1, r, hl, q⟩ => ⟨I1.kIn, ?_⟩) hpl he
  rw [hks]
  have hb' := hb s1 us ws I1.kIn (by rw [← r0.length, hl0, hn]) (by rw [← r.length, hl, hln])
  exact wp_runG F hr hgu tkk I1 hb' (Vals.pick (r0.append r) ix) q
end

section
variable {c : CxD} {B : Bs} {e a b : Expr} {es : List Expr} {sl sl1 sl2 sl3 : List Sl} {p q : Bool} {k k1 k2 : Kd} {ks ks' : List Kd} {pos p1 p2 p3 : Pos} {d : PyData} {ds ds' : List PyData} {cs cs' : List Sl} {R : Rel}
/-- arguments as the callee has them: nothing is changed -/
inductive ArgP : List Kd → List Sl → Prop
  | nil : ArgP [] []
  | st {d : PyData} {ks : List Kd} {cs : List Sl} (t : ArgP ks cs) : ArgP (.st d :: ks) (.val d :: cs)
  | raw {v : V} {ks : List Kd} {cs : List Sl} (t : ArgP ks cs) : ArgP (.raw v :: ks) (.raw v :: cs)
theorem ArgP.slot {K : PySem.W.Frag} {S H : Hp} {σ : L2.St} {vs : List V} (h : ArgP ks cs) (x : KdsOk K B σ sl S H vs ks) : vs.length = cs.length ∧ ∀ (i : Nat) (s : Sl), cs[i]? = some s → s.ow = none ∧ ∃ v, vs[i]? = some v ∧ ((∃ d, s = .val d ∧ Tr K S v d) ∨ s = .raw v) := by
  induction h generalizing vs with
  | nil =>
    cases x
    exact ⟨rfl, fun i s e => by simp at e⟩
  | st t ih =>
    cases x with
    | cons h1 h2 =>
      obtain ⟨e1, e2⟩ := ih h2
      refine ⟨by rw [List.length_cons, List.length_cons, e1], fun i s e => ?_⟩
      cases i with
      | zero => simp at e; subst e; exact ⟨rfl, _, rfl, .inl ⟨_, rfl, h1⟩⟩
      | succ i => exact e2 i s (by simpa using e)
  | raw t ih =>
    cases x with
    | cons h1 h2 =>
      obtain ⟨e1, e2⟩ := ih h2
      refine ⟨by rw [List.length_cons, List.length_cons, e1], fun i s e => ?_⟩
      cases i with
      | zero => simp at e; subst e; exact ⟨rfl, _, rfl, .inr (by rw [show _ = _ from h1])⟩
      | succ i => exact e2 i s (by simpa using e)
theorem ArgP.stt {K : PySem.W.Frag} {S H : Hp} {σ : L2.St} {vs : List V} (h : ArgP ks cs) (I : Stt K B S H σ sl) (x : KdsOk K B σ sl S H vs ks) : Stt K ⟨S, H, []⟩ S H (vs.map some) cs := by
  obtain ⟨e1, e2⟩ := h.slot x
  refine ⟨.refl _, I.sh, fun a o h1 h2 => (by have h3 : S a = none := h2; rw [h1] at h3; cases h3), fun a o e _ _ => e, fun a o e => ⟨o, e⟩, fun l h => absurd h (by simp), by rw [List.length_map]; exact e1, fun i s e => ?_, fun i j a y1 y2 => ?_, I.tabs, (fun a ps e => ⟨ps, e⟩), I.snt, I.sm0⟩
  · obtain ⟨_, v, hv, h⟩ := e2 i s e
    refine ⟨some v, by rw [List.getElem?_map, hv]; rfl, ?_⟩
    rcases h with ⟨d, rfl, t⟩ | rfl
    · exact ⟨v, rfl, t⟩
    · rfl
  · obtain ⟨s, x, a1, a2, a3⟩ := y1
    obtain ⟨_, v, hv, h⟩ := e2 i s a1
    rcases h with ⟨d, rfl, t⟩ | rfl
    · exact absurd a3 fpS_val
    · exact absurd a3 fpS_raw
theorem kd_back {K : PySem.W.Frag} {S H S' H' : Hp} {σ σ' : L2.St} {v : V} {ls : List Addr} (I : Stt K B S H σ sl) (hk : k.firm = true ∧ ∀ i, k ≠ .at i) (own : ∀ a, OwnAt σ sl1 a → OwnAt σ sl a) (x : KdOk K ⟨S, H, ls⟩ σ' cs S' H' v k) : KdOk K B σ sl1 S' H' v k ∧ Frs H v k := by
  cases k with
  | st d => exact ⟨x, trivial⟩
  | ls ds => cases hk.1
  | nw ds => cases hk.1
  | ft ds =>
    obtain ⟨fp, t, nd, hG⟩ := x
    refine ⟨⟨fp, t, nd, fun l m => ?_⟩, trivial⟩
    obtain ⟨n, n0, _⟩ := hG l m
    have n0' : H l = none := n0
    obtain ⟨_, h0, na⟩ := I.notIn n0'
    exact ⟨n, h0, fun z => na (own l z)⟩
  | raw u => exact ⟨x, trivial⟩
  | «at» i => exact absurd rfl (hk.2 i)
  | fr o =>
    obtain ⟨l, e, n, n0, ow, _⟩ := x
    have n0' : H l = none := n0
    obtain ⟨_, h0, na⟩ := I.notIn n0'
    exact ⟨⟨l, e, n, h0, ow, fun z => na (own l z)⟩, fun l' e' => by rw [e] at e'; cases e'; exact n0'⟩
/-- the callee behind: nothing that stood is changed -/
theorem back0 {K : PySem.W.Frag} {S H S' H' : Hp} {σ σ' : L2.St} (I : Stt K B S H σ sl) (J : Stt K ⟨S, H, []⟩ S' H' σ' cs) : Stt K B S' H' σ sl ∧ Adv σ sl S H sl S' H' true := by
  have h2 : Sam H H' := ⟨fun a o e ht => J.keep a o e (by simp) ht, J.tbk⟩
  exact ⟨I.growS J.s0 h2 J.sh J.new J.tabs J.snt, J.s0, J.new, fun a o e => h2.dom e, fun a o e ht _ => h2.st _ _ e ht, fun _ => h2, fun _ h => h⟩
/-- f(e, ..): nothing is changed -/
theorem ev_call {x : Str} {st : Stmt} {ps : List Str} {lv : Nat} (F : c.Def x st ps lv (Prm c.K c.mg R)) (ha : AV c B (e :: es) sl p ks sl1) (hcs : ArgP ks cs) (hR : R cs (.ret k) cs) (hk : k.firm = true ∧ ∀ i, k ≠ .at i) (hlv : lv ≤ c.lv := by exact Nat.le_of_ble_eq_true rfl) (hg : c.sc.names.lookup x = some .globalImplicit := by rfl)
    (hdb : (x == ("__debug__" : Str)) = false := by decide) (he : ∀ env, starEach (e :: es) env = (false, eval e env) :: starEach es env := by intro env; rfl) (hpl : ∀ env, (backTo pos (starEach es env)).any (·.1) = false := by intro env; rfl) : EV c B (.Call (.Name x p1) (e :: es) [] pos) sl p k sl1 := by
  obtain ⟨f, fd, hm, hF, hb, G⟩ := F.ex
  obtain ⟨t, ht, hs⟩ := ha
  refine ⟨fun σ H Q => t σ H fun vs H1 => Prm c.K c.mg R vs H1 Q fun cls d H' => c.W cls d σ H', fun X hX => pe_callG (by rw [hX.hP, hX.hw, hX.hK, hX.hm, hX.hb]; exact G) (hX.rm.mono hlv) hX.gu hX.tk (hX.g x hg) (by rw [hX.hm]; exact hm) (by rw [hX.hK]; exact hF.kp) (by rw [hX.hK]; exact hb) (ht X hX) hdb (he _) (hpl _), fun S H σ I Q fn => ?_⟩
  refine hs S H σ I _ fun vs S1 H1 I1 a1 x1 => ⟨S1, [], cs, .ret k, cs, hR, hcs.stt I1 x1, fun v S' H' J hv => ?_⟩
  obtain ⟨I2, a2⟩ := back0 I1 J
  obtain ⟨kd, fr⟩ := kd_back I1 hk (fun _ h => h) hv
  exact fn v S' H' I2 ((a1.trans a2).weak fun h => by rw [h]; rfl) kd (fr.back a1)

/-! ### one argument is changed -/
inductive ArgC (sl : List Sl) (i : Nat) (o : Ow) : List Kd → List Sl → Prop
  | st {d : PyData} {ks : List Kd} {cs : List Sl} (t : ArgC sl i o ks cs) : ArgC sl i o (.st d :: ks) (.val d :: cs)
  | raw {v : V} {ks : List Kd} {cs : List Sl} (t : ArgC sl i o ks cs) : ArgC sl i o (.raw v :: ks) (.raw v :: cs)
  | here {ks : List Kd} {cs : List Sl} (t : ArgP ks cs) : ArgC sl i o (.at i :: ks) (.io 0 o :: cs)
theorem ArgC.slot {K : PySem.W.Frag} {S H : Hp} {σ : L2.St} {vs : List V} {i : Nat} {o : Ow} (h : ArgC sl i o ks cs) (x : KdsOk K B σ sl S H vs ks) : vs.length = cs.length ∧ (∃ m v, cs[m]? = some (.io 0 o) ∧ vs[m]? = some v ∧ σ[i]? = some (some v) ∧ ∀ (n : Nat) (s : Sl), cs[n]? = some s → n ≠ m → s.ow = none ∧ ∃ v, vs[n]? = some v ∧ ((∃ d, s = .val d ∧ Tr K S v d) ∨ s = .raw v)) := by
  induction h generalizing vs with
  | here t =>
    cases x with
    | cons h1 h2 =>
      obtain ⟨e1, e2⟩ := t.slot h2
      refine ⟨by rw [List.length_cons, List.length_cons, e1], 0, _, rfl, rfl, h1, fun n s e hn => ?_⟩
      cases n with
      | zero => exact absurd rfl hn
      | succ n => exact e2 n s (by simpa using e)
  | st t ih =>
    cases x with
    | cons h1 h2 =>
      obtain ⟨e1, m, v, e2, e3, e4, e5⟩ := ih h2
      refine ⟨by rw [List.length_cons, List.length_cons, e1], m + 1, v, by simpa using e2, by simpa using e3, e4, fun n s e hn => ?_⟩
      cases n with
      | zero => simp at e; subst e; exact ⟨rfl, _, rfl, .inl ⟨_, rfl, h1⟩⟩
      | succ n => exact e5 n s (by simpa using e) fun z => hn (by rw [z])
  | raw t ih =>
    cases x with
    | cons h1 h2 =>
      obtain ⟨e1, m, v, e2, e3, e4, e5⟩ := ih h2
      refine ⟨by rw [List.length_cons, List.length_cons, e1], m + 1, v, by simpa using e2, by simpa using e3, e4, fun n s e hn => ?_⟩
      cases n with
      | zero => simp at e; subst e; exact ⟨rfl, _, rfl, .inr (by rw [show _ = _ from h1])⟩
      | succ n => exact e5 n s (by simpa using e) fun z => hn (by rw [z])
theorem ev_at (i : Nat) {x : Str} {s : Sl} {o : Ow} (hd : sl[i]? = some s := by rfl) (ho : s.ow = some o := by rfl) (hN : c.N[i]? = some x := by rfl) (hv : Vis c.sc x := by first | exact .inl rfl | exact .inr (.inl rfl) | exact .inr (.inr rfl))
    (h1 : (x == ("__debug__" : Str)) = false := by decide) (h2 : (x == ("__classdict__" : Str)) = false := by decide) : EV c B (.Name x pos) sl true (.at i) sl :=
  ⟨tVar i, fun X hX => pe_var (by rw [hX.hN]; exact hN) (hX.v x hv) h1 h2, fun S H σ I Q q => by
    obtain ⟨l, e, n, ow⟩ := I.own hd ho
    exact ⟨_, e, q _ S H I .refl e trivial⟩⟩
/-- f(e, ..) where one argument, the object in slot i, is changed -/
theorem ev_callC {x : Str} {st : Stmt} {ps : List Str} {lv : Nat} (i : Nat) {s : Sl} {o o' : Ow} (F : c.Def x st ps lv (Prm c.K c.mg R)) (ha : AV c B (e :: es) sl p ks sl1) (hcs : ArgC sl1 i o ks cs) (hR : R cs (.ret k) cs') (hio : ∀ (m : Nat), cs[m]? = some (.io 0 o) → cs'[m]? = some (.io 0 o'))
    (hk : k.firm = true ∧ ∀ i, k ≠ .at i) (hs : sl1[i]? = some s := by rfl) (ho : s.ow = some o := by rfl) (hlv : lv ≤ c.lv := by exact Nat.le_of_ble_eq_true rfl) (hg : c.sc.names.lookup x = some .globalImplicit := by rfl)
    (hdb : (x == ("__debug__" : Str)) = false := by decide) (he : ∀ env, starEach (e :: es) env = (false, eval e env) :: starEach es env := by intro env; rfl) (hpl : ∀ env, (backTo pos (starEach es env)).any (·.1) = false := by intro env; rfl) : EV c B (.Call (.Name x p1) (e :: es) [] pos) sl false k (sl1.set i (s.put o')) := by
  obtain ⟨f, fd, hm, hF, hb, G⟩ := F.ex
  obtain ⟨t, ht, hh⟩ := ha
  refine ⟨fun σ H Q => t σ H fun vs H1 => Prm c.K c.mg R vs H1 Q fun cls d H' => c.W cls d σ H', fun X hX => pe_callG (by rw [hX.hP, hX.hw, hX.hK, hX.hm, hX.hb]; exact G) (hX.rm.mono hlv) hX.gu hX.tk (hX.g x hg) (by rw [hX.hm]; exact hm) (by rw [hX.hK]; exact hF.kp) (by rw [hX.hK]; exact hb) (ht X hX) hdb (he _) (hpl _), fun S H σ I Q fn => ?_⟩
  refine hh S H σ I _ fun vs S1 H1 I1 a1 x1 => ?_
  obtain ⟨l, el, nl, ow⟩ := I1.own hs ho
  obtain ⟨e1, m, v0, hc0, hv0, hsv, rest⟩ := hcs.slot x1
  rw [el] at hsv
  cases hsv
  have J0 : Stt c.K ⟨S1, H1, [l]⟩ S1 H1 (vs.map some) cs := by
    refine ⟨.refl _, I1.sh, fun a o h1 h2 => (by have h3 : S1 a = none := h2; rw [h1] at h3; cases h3), fun a o e _ _ => e, fun a o e => ⟨o, e⟩, fun l' h' => by rw [List.mem_singleton.mp h']; exact ow.some, by rw [List.length_map]; exact e1, fun n s2 e => ?_, fun n1 n2 a y1 y2 => ?_, I1.tabs, (fun a ps e => ⟨ps, e⟩), I1.snt, I1.sm1 ow⟩
    · by_cases hn : n = m
      · subst hn
        rw [hc0] at e
        cases e
        exact ⟨some (.ref l), by rw [List.getElem?_map, hv0]; rfl, l, rfl, nl, ow, rfl⟩
      · obtain ⟨_, v, hv, h⟩ := rest n s2 e hn
        refine ⟨some v, by rw [List.getElem?_map, hv]; rfl, ?_⟩
        rcases h with ⟨d, rfl, t⟩ | rfl
        · exact ⟨v, rfl, t⟩
        · rfl
    · have only : ∀ {n : Nat} {a : Addr}, FpAt (vs.map some) cs n a → n = m := fun {n a} ⟨s3, x3, h3, _, w3⟩ => by
        by_cases hn : n = m
        · exact hn
        · obtain ⟨_, v, hv, h⟩ := rest n s3 h3 hn
          rcases h with ⟨d, rfl, t⟩ | rfl
          · exact absurd w3 fpS_val
          · exact absurd w3 fpS_raw
      rw [only y1, only y2]
  refine ⟨S1, [l], cs, .ret k, cs', hR, J0, fun v S' H' J hv => ?_⟩
  obtain ⟨y, hy, l2, e2, n2, ow2, hj2⟩ := J.slot m _ (hio m hc0)
  have e3 : l2 = l := by
    have : ([l] : List Addr)[0]? = some l2 := hj2
    simpa using this.symm
  subst e3
  have kp : ∀ a o, H1 a = some o → (∀ ps, o ≠ .tbl ps) → a ≠ l2 → H' a = some o := fun a o e ht hn => J.keep a o e (by simpa using hn) ht
  have I2 := I1.after hs ho (put_ow (o' := o') ho) put_kind el J.s0 J.sh J.new kp J.tbk J.tabs J.snt n2 ow2
  have own : ∀ a, OwnAt σ (sl1.set i (s.put o')) a → OwnAt σ sl1 a := fun a h => by
    rcases ownAt_setS h with h | ⟨x, hx, f⟩
    · exact h
    · rw [el] at hx
      cases hx
      have hf : FpS s (some (.ref l2)) a := by
        rcases f with ⟨o2, _, e⟩ | ⟨d, fp, e, _⟩
        · exact .inl ⟨o, ho, e⟩
        · cases s with
          | no => cases ho
          | val d => cases ho
          | raw d => cases ho
          | prv d fp => cases ho
          | own o => cases e
          | io j o => cases e
      exact ⟨i, s, _, hs, el, hf⟩
  obtain ⟨kd, fr⟩ := kd_back I1 hk own hv
  refine fn v S' H' I2 ((a1.trans (q := false) ⟨J.s0, J.new, J.dom, fun a o e ht na => kp a o e ht fun z => na ⟨i, .of_ow hs ho (by rw [el, z])⟩, (fun h => nomatch h), own⟩).weak fun h => nomatch h) kd (fr.back a1)

/-! ### keywords -/
def KV (c : CxD) (B : Bs) (kws : List Keyword) (sl : List Sl) (p : Bool) (ks : List Kd) (sl' : List Sl) : Prop := ∃ t, (∀ X, InCx c X → PK X kws t) ∧ SemA c.K B t sl p ks sl'
theorem kv_nil : KV c B [] sl true [] sl := ⟨tNil, fun _ _ => pk_nil, fun S H σ I Q q => q [] S H I .refl .nil⟩
theorem kv_cons {kws : List Keyword} {nm : Option Str} {kpos : Pos} (ha : EV c B e sl p k sl1) (hr : KV c B kws sl1 q ks sl2) (hk : (q || k.firm) = true := by rfl) : KV c B (⟨nm, e, kpos⟩ :: kws) sl (p && q) (k :: ks) sl2 := by
  obtain ⟨ta, ha, sa⟩ := ha
  obtain ⟨tb, hb, sb⟩ := hr
  refine ⟨tCons ta tb, fun X hX => pk_cons (ha X hX) (hb X hX), fun S H σ I Q fn => ?_⟩
  refine sa S H σ I _ fun x S1 H1 I1 a1 x1 f1 => sb S1 H1 σ I1 _ fun vs S2 H2 I2 a2 x2 => ?_
  exact fn _ S2 H2 I2 (a1.trans a2) (.cons (x1.adv a2 hk) x2)
theorem KdsOk.len {K : PySem.W.Frag} {S H : Hp} {σ : L2.St} : ∀ {vs : List V} {ks : List Kd}, KdsOk K B σ sl S H vs ks → vs.length = ks.length
  | _, _, .nil => rfl
  | _, _, .cons _ t => congrArg (· + 1) (KdsOk.len t)
theorem KdsOk.get {K : PySem.W.Frag} {S H : Hp} {σ : L2.St} : ∀ {vs : List V} {ks : List Kd} (i : Nat), KdsOk K B σ sl S H vs ks → (vs[i]? = none ∧ ks[i]? = none) ∨ ∃ v k, vs[i]? = some v ∧ ks[i]? = some k ∧ KdOk K B σ sl S H v k
  | _, _, _, .nil => .inl ⟨by simp, by simp⟩
  | _, _, 0, .cons h _ => .inr ⟨_, _, rfl, rfl, h⟩
  | _, _, i + 1, .cons _ t => by
    have := KdsOk.get i t
    simpa using this
theorem KdsOk.pick {K : PySem.W.Frag} {S H : Hp} {σ : L2.St} {vs : List V} (h : KdsOk K B σ sl S H vs ks) : ∀ ix : List Nat, KdsOk K B σ sl S H (Mw.pick vs ix) (Mw.pick ks ix)
  | [] => .nil
  | i :: ix => by
    have ih := KdsOk.pick h ix
    unfold Mw.pick at ih ⊢
    rcases h.get i with ⟨e1, e2⟩ | ⟨v, k, e1, e2, hk⟩
    · rw [List.filterMap_cons_none e1, List.filterMap_cons_none e2]
      exact ih
    · rw [List.filterMap_cons_some e1, List.filterMap_cons_some e2]
      exact .cons hk ih
theorem KdsOk.app {K : PySem.W.Frag} {S H : Hp} {σ : L2.St} : ∀ {vs ws : List V} {ks ks' : List Kd}, KdsOk K B σ sl S H vs ks → KdsOk K B σ sl S H ws ks' → KdsOk K B σ sl S H (vs ++ ws) (ks ++ ks')
  | _, _, _, _, .nil, h => h
  | _, _, _, _, .cons h t, s => .cons h (KdsOk.app t s)
/-- how the text of a def binds n positional arguments and the keywords ks -/
def KwOk (x : Str) (st : Stmt) (ps ks : List Str) (n : Nat) (ix : List Nat) : Prop := ∀ (kV doc pm : Value) (an : Option Addr) (cdv ct : Value) (us ws : List Value), us.length = n → ws.length = ks.length →
  bindArgs (PySem.W.fnOf x x (defArgs st) (defBody st) (defScope st) .none kV doc pm an cdv ct) ⟨us, ks.zip ws⟩ = pure (ps.zip (pick (us ++ ws) ix))
theorem KwOk.kwb {K : PySem.W.Frag} {x : Str} {st : Stmt} {f : Addr} {fd : FuncData} {ps nms : List Str} {n : Nat} {ix : List Nat} (h : KwOk x st ps nms n ix) (F : Fun K x x st f fd) : KwB K fd ps nms n ix := fun s us ws _ h1 h2 => by
  obtain ⟨oc, od, kV, doc, pm, an, cdv, ct, osl, rfl, lk, hcd⟩ := F.ex
  exact .of_eq (h kV doc pm an cdv ct us ws h1 h2)
/-- f(k = e, ..): nothing is changed -/
theorem ev_callK {x : Str} {st : Stmt} {ps nms : List Str} {lv : Nat} {kws : List Keyword} {ix : List Nat} (F : c.DefK x st ps lv (Prm c.K c.mg R)) (kb : KwOk x st ps nms 0 ix) (ha : KV c B kws sl p ks sl1) (hcs : ArgP (pick ks ix) cs) (hR : R cs (.ret k) cs) (hk : k.firm = true ∧ ∀ i, k ≠ .at i) (hlv : lv ≤ c.lv := by exact Nat.le_of_ble_eq_true rfl) (hg : c.sc.names.lookup x = some .globalImplicit := by rfl)
    (hlk : ks.length = kws.length := by rfl) (hln : kws.length = nms.length := by rfl) (hall : ∀ env, (backToKw pos (keywordEach kws env)).all (·.1.isSome) = true := by intro _; rfl) (hks : ∀ env, (backToKw pos (keywordEach kws env)).filterMap (·.1) = nms := by intro _; rfl)
    (hdb : (x == ("__debug__" : Str)) = false := by decide) (hpl : ∀ env, ((backTo pos (starEach [] env)).any (·.1) || (backToKw pos (keywordEach kws env)).any (·.1.isNone)) = false := by intro _; rfl) : EV c B (.Call (.Name x p1) [] kws pos) sl p k sl1 := by
  obtain ⟨f, fd, hm, hF, G⟩ := F.ex
  obtain ⟨t, ht, hs⟩ := ha
  refine ⟨fun σ H Q => t σ H fun vs H1 => vs.length = kws.length ∧ Prm c.K c.mg R (pick vs ix) H1 Q fun cls d H' => c.W cls d σ H', fun X hX => pe_callGK0 (by rw [hX.hP, hX.hw, hX.hK, hX.hm, hX.hb]; exact G) (hX.rm.mono hlv) hX.gu hX.tk (hX.g x hg) (by rw [hX.hm]; exact hm) (by rw [hX.hK]; exact hF.kp) (by rw [hX.hK]; exact kb.kwb hF) (ht X hX) hln (hall _) (hks _) hdb (hpl _), fun S H σ I Q fn => ?_⟩
  refine hs S H σ I _ fun vs S1 H1 I1 a1 x1 => ⟨by rw [x1.len]; exact hlk, S1, [], cs, .ret k, cs, hR, hcs.stt I1 (x1.pick ix), fun v S' H' J hv => ?_⟩
  obtain ⟨I2, a2⟩ := back0 I1 J
  obtain ⟨kd, fr⟩ := kd_back I1 hk (fun _ h => h) hv
  exact fn v S' H' I2 ((a1.trans a2).weak fun h => by rw [h]; rfl) kd (fr.back a1)
/-- f(e, .., k = e, ..): nothing is changed -/
theorem ev_callPK {x : Str} {st : Stmt} {ps nms : List Str} {lv n : Nat} {kws : List Keyword} {ix : List Nat} (F : c.DefK x st ps lv (Prm c.K c.mg R)) (kb : KwOk x st ps nms n ix) (ha : AV c B (e :: es) sl p ks sl1) (hkv : KV c B kws sl1 q ks' sl2) (hcs : ArgP (pick (ks ++ ks') ix) cs) (hR : R cs (.ret k) cs) (hk : k.firm = true ∧ ∀ i, k ≠ .at i) (hlv : lv ≤ c.lv := by exact Nat.le_of_ble_eq_true rfl) (hg : c.sc.names.lookup x = some .globalImplicit := by rfl)
    (hla : ks.length = (e :: es).length := by rfl) (hn : (e :: es).length = n := by rfl) (hlk : ks'.length = kws.length := by rfl) (hln : kws.length = nms.length := by rfl) (hfm : (q || ks.all Kd.firm) = true := by rfl) (hall : ∀ env, (backToKw pos (keywordEach kws env)).all (·.1.isSome) = true := by intro _; rfl) (hks : ∀ env, (backToKw pos (keywordEach kws env)).filterMap (·.1) = nms := by intro _; rfl)
    (hdb : (x == ("__debug__" : Str)) = false := by decide) (he : ∀ env, starEach (e :: es) env = (false, eval e env) :: starEach es env := by intro env; rfl) (hpl : ∀ env, ((backTo pos (starEach (e :: es) env)).any (·.1) || (backToKw pos (keywordEach kws env)).any (·.1.isNone)) = false := by intro _; rfl) : EV c B (.Call (.Name x p1) (e :: es) kws pos) sl (p && q) k sl2 := by
  obtain ⟨f, fd, hm, hF, G⟩ := F.ex
  obtain ⟨t, ht, hs⟩ := ha
  obtain ⟨t', ht', hs'⟩ := hkv
  refine ⟨fun σ H Q => t σ H fun vs H1 => vs.length = (e :: es).length ∧ t' σ H1 fun ws H2 => ws.length = kws.length ∧ Prm c.K c.mg R (pick (vs ++ ws) ix) H2 Q fun cls d H' => c.W cls d σ H', fun X hX => pe_callGK (by rw [hX.hP, hX.hw, hX.hK, hX.hm, hX.hb]; exact G) (hX.rm.mono hlv) hX.gu hX.tk (hX.g x hg) (by rw [hX.hm]; exact hm) (by rw [hX.hK]; exact hF.kp) (by rw [hX.hK]; exact kb.kwb hF) (ht X hX) (ht' X hX) hln hn (hall _) (hks _) hdb (he _) (hpl _), fun S H σ I Q fn => ?_⟩
  refine hs S H σ I _ fun vs S1 H1 I1 a1 x1 => ⟨by rw [x1.len]; exact hla, hs' S1 H1 σ I1 _ fun ws S2 H2 I2 a2 x2 => ⟨by rw [x2.len]; exact hlk, S2, [], cs, .ret k, cs, hR, hcs.stt I2 (((x1.adv a2 hfm).app x2).pick ix), fun v S' H' J hv => ?_⟩⟩
  obtain ⟨I3, a3⟩ := back0 I2 J
  obtain ⟨kd, fr⟩ := kd_back I2 hk (fun _ h => h) hv
  exact fn v S' H' I3 (((a1.trans a2).trans a3).weak fun h => by rw [h]; rfl) kd (fr.back (a1.trans a2))
end

/-! ## the end of a law -/
/-- the law's promise: called with a script, it says True -/
def spLaw (K : PySem.W.Frag) (n : Nat) : Sp := fun vs H Q _ => ∃ (a : Addr) (ns : List Int), vs = [.ref a] ∧ Only H ∧ SqL K H a (ns.map V.int) ∧ ns.length ≤ n ∧ ∀ H', Q (.bl true) H'
end Mw

/-! MwH: the end of a law. -/
namespace Mw
open PySem PySem.Spec L2
variable [Tb]

/-- the law's promise: called with a script of at most n numbers, it says True -/
def lawR (n : Nat) : Rel := fun cs k cs' => ∃ ns : List Int, cs = [.val (.list (nums ns))] ∧ ns.length ≤ n ∧ k = .ret (.st (.bool true)) ∧ cs' = cs
end Mw

/-! MwI: a, b = x, y; isinstance. -/
namespace Mw
open PySem PySem.Spec L2
variable [Tb]

section
variable {K : PySem.W.Frag} {B : Bs} {S H : Hp} {σ : L2.St} {sl : List Sl} {v w : V} {k k2 : Kd} {i j : Nat}
/-- behind a slot's writing another result still stands -/
theorem KdOk.put (x : KdOk K B σ sl S H v k) (hi : ∀ m, k ≠ .at m) (hf : ∀ d, k ≠ .ft d) (k2 : Kd) (hne : ∀ o o' l l', k = .fr o → k2 = .fr o' → v = .ref l → w = .ref l' → l ≠ l') : KdOk K B (σ.set i (some w)) (sl.set i k2.asS) S H v k := by
  cases k with
  | st d => exact x
  | ls d => exact x
  | raw u => exact x
  | nw u => exact x
  | ft u => exact absurd rfl (hf u)
  | «at» m => exact absurd rfl (hi m)
  | fr o =>
    obtain ⟨l, e, n, n0, ow, na⟩ := x
    refine ⟨l, e, n, n0, ow, fun h => ?_⟩
    rcases ownAt_set h with h | h
    · exact na h
    · cases k2 with
      | fr o' => have e2 := fpS_own.mp h; cases e2; exact hne o o' l l rfl rfl e rfl rfl
      | st d => exact fpS_val h
      | ls d => exact fpS_no h
      | raw u => exact fpS_raw h
      | nw u => exact fpS_no h
      | ft u => exact fpS_no h
      | «at» q => exact fpS_no h
end
section
variable {c : CxD} {B : Bs} {e a b d3 : Expr} {es : List Expr} {ss rest : List Stmt} {sl sl1 sl2 sl3 : List Sl} {p q q3 : Bool} {k k1 k2 k3 : Kd} {ks : List Kd} {pos px py pz pt p1 p2 p3 : Pos} {R : Rt} {d : PyData} {ds ds' : List PyData}
theorem fr_ne {K : PySem.W.Frag} {S H : Hp} {σ : L2.St} {v w : V} (x1 : KdOk K B σ sl S H v k1) (f2 : Frs H w k2) : ∀ o o' l l', k1 = .fr o → k2 = .fr o' → v = .ref l → w = .ref l' → l ≠ l' := fun o o' l l' e1 e2 e3 e4 z => by
  subst e1 e2 e3 e4 z
  obtain ⟨m, em, _, _, ow, _⟩ := x1
  cases em
  obtain ⟨u, eu⟩ := ow.some
  have := f2 l rfl
  rw [eu] at this
  cases this
theorem star_no {e : Expr} {P : Prop} (h : ∀ v m, e ≠ .Starred v m) (z : (match e with | .Starred _ _ => true | _ => false) = true) : P := by
  cases e with
  | Starred v m => exact absurd rfl (h v m)
  | _ => cases z
theorem sw2 {X : Cx} {x y : Str} {kt k2' : Nat} {pt2 : Pos} (hk : X.env.scope.kind = .function) (hx : X.env.scope.names.lookup x = some .local) (hy : X.env.scope.names.lookup y = some .local) (hxy : (x == y) = false) (hl : (py.line == px.line) = true)
    (ha : ∀ v m, a ≠ .Starred v m) (hb : ∀ v m, b ≠ .Starred v m) (h1 : [a, b].all (foldedForSure 8) = false) (h2 : [a, b].all (constantsAlone 8) = false) :
    swappedStores [.Tuple [.Name x px, .Name y py] kt pt] (.Tuple [a, b] k2' pt2) X.env = pure (some [x, y]) := by
  have kx : X.env.kindOf x = some .local := hx
  have ky : X.env.kindOf y = some .local := hy
  have hbk : X.env.blockKind = .function := by unfold Env.blockKind; rw [hk]; rfl
  have e1 : ([x, y] : List Str).eraseDups.length = 2 := by
    have hne : ¬ y = x := fun z => by rw [z] at hxy; simp at hxy
    simp [List.eraseDups_cons, hne]
  have hl2 : py.line = px.line := by simpa using hl
  unfold swappedStores
  simp only [h1, h2, hbk]
  simp [kx, ky, Expr.pos, hl2, e1]
  all_goals (intro h; rcases h with h | h <;> first | exact star_no ha h | exact star_no hb h)
theorem sw3 {X : Cx} {x y z : Str} {kt k2' : Nat} {pt2 : Pos} (hk : X.env.scope.kind = .function) (hx : X.env.scope.names.lookup x = some .local) (hy : X.env.scope.names.lookup y = some .local) (hz : X.env.scope.names.lookup z = some .local) (hxy : (x == y) = false) (hxz : (x == z) = false) (hyz : (y == z) = false) (hl : (py.line == px.line) = true) (hl' : (pz.line == px.line) = true)
    (ha : ∀ v m, a ≠ .Starred v m) (hb : ∀ v m, b ≠ .Starred v m) (hd : ∀ v m, d3 ≠ .Starred v m) (h1 : [a, b, d3].all (foldedForSure 8) = false) (h2 : [a, b, d3].all (constantsAlone 8) = false) :
    swappedStores [.Tuple [.Name x px, .Name y py, .Name z pz] kt pt] (.Tuple [a, b, d3] k2' pt2) X.env = pure (some [x, y, z]) := by
  have kx : X.env.kindOf x = some .local := hx
  have ky : X.env.kindOf y = some .local := hy
  have kz : X.env.kindOf z = some .local := hz
  have hbk : X.env.blockKind = .function := by unfold Env.blockKind; rw [hk]; rfl
  have e1 : ([x, y, z] : List Str).eraseDups.length = 3 := by
    have n1 : ¬ y = x := fun z => by rw [z] at hxy; simp at hxy
    have n2 : ¬ z = x := fun z => by rw [z] at hxz; simp at hxz
    have n3 : ¬ z = y := fun z => by rw [z] at hyz; simp at hyz
    simp [List.eraseDups_cons, n1, n2, n3]
  have hl2 : py.line = px.line := by simpa using hl
  have hl3 : pz.line = px.line := by simpa using hl'
  unfold swappedStores
  simp only [h1, h2, hbk]
  simp [kx, ky, kz, Expr.pos, hl2, hl3, e1]
  all_goals (intro h; rcases h with h | h | h <;> first | exact star_no ha h | exact star_no hb h | exact star_no hd h)
/-- x, y = a, b with two plain names -/
theorem go_par2 (i j : Nat) {x y : Str} {kt k2' : Nat} {pt2 : Pos} (ha : EV c B a sl p k1 sl1) (hb : EV c B b sl1 q k2 sl2) (h2 : GO c B rest ((sl2.set i k1.asS).set j k2.asS) R) (hk : (q || k1.firm) = true := by rfl) (h1at : ∀ m, k1 ≠ .at m := by intro m h; cases h) (h2at : ∀ m, k2 ≠ .at m := by intro m h; cases h) (h2ft : ∀ m, k2 ≠ .ft m := by intro m h; cases h) (hi : (sl2[i]?).isSome = true := by rfl) (hj : (sl2[j]?).isSome = true := by rfl) (hij : i ≠ j := by decide)
    (hN : c.N[i]? = some x := by rfl) (hN2 : c.N[j]? = some y := by rfl) (nd : c.N.Nodup := by assumption) (hx : c.sc.names.lookup x = some .local := by rfl) (hy : c.sc.names.lookup y = some .local := by rfl) (hxy : (x == y) = false := by decide) (hln : (py.line == px.line) = true := by rfl)
    (has : ∀ v m, a ≠ .Starred v m := by intro _ _ h; cases h) (hbs : ∀ v m, b ≠ .Starred v m := by intro _ _ h; cases h) (hf1 : [a, b].all (foldedForSure 8) = false := by rfl) (hf2 : [a, b].all (constantsAlone 8) = false := by rfl)
    (hsw : ∀ env, swapsWithSole [.Tuple [.Name x px, .Name y py] kt pt] (.Tuple [a, b] k2' pt2) pos.line env = pure false := by intro _; rfl)
    (hst1 : ∀ env, starEach [a, b] env = (false, eval a env) :: starEach [b] env := by intro env; rfl) (hst2 : ∀ env, starEach [b] env = (false, eval b env) :: starEach [] env := by intro env; rfl) :
    GO c B (.Assign [.Tuple [.Name x px, .Name y py] kt pt] (.Tuple [a, b] k2' pt2) pos :: rest) sl R := by
  obtain ⟨ta, ga, sa⟩ := ha
  obtain ⟨tb, gb, sb⟩ := hb
  refine go_to ⟨tPar i j (tCons ta (tCons tb tNil)), fun X hX => ps_par hX.calm (by rw [hX.hN]; exact nd) (by rw [hX.hN]; exact hN) (by rw [hX.hN]; exact hN2) hij (hX.l x hx) (hX.l y hy) (pa_cons (ga X hX) (pa_cons (gb X hX) pa_nil (hst2 _)) (hst1 _)) (sw2 hX.kind (hX.l x hx) (hX.l y hy) hxy hln has hbs hf1 hf2) (hsw _), fun S H σ I D q' => ?_⟩ h2
  refine sa S H σ I _ fun v S1 H1 I1 a1 x1 f1 => sb S1 H1 σ I1 _ fun w S2 H2 I2 a2 x2 f2 => ?_
  refine ⟨v, w, rfl, ?_⟩
  have x1' := x1.adv a2 hk
  have I3 := I2.set (i := i) x1' hi
  have x2' : KdOk c.K B (σ.set i (some v)) (sl2.set i k1.asS) S2 H2 w k2 := x2.put h2at h2ft k1 fun o o' l l' e1 e2 e3 e4 z => fr_ne x1 f2 o' o l' l e2 e1 e4 e3 z.symm
  exact q'.nx S2 H2 _ _ (a1.s.trans a2.s) (I3.set (i := j) x2' (by rw [List.getElem?_set_ne hij]; exact hj)) rfl

/-! ## isinstance -/
def tyD : PyData → String
  | .none => "NoneType"
  | .bool _ => "bool"
  | .int _ => "int"
  | .str _ => "str"
  | .list _ => "list"
  | .tuple _ => "tuple"
  | .dict _ => "dict"
/-- no thing by its address, no exception -/
def plnD : PyData → Bool
  | .dict ds => ds.all fun p => match p.1 with | .none => false | _ => true
  | _ => true
theorem Tr.ty {K : PySem.W.Frag} {H : Hp} {v : V} (h : Tr K H v d) (hp : plnD d = true) : TyX K H v (.type (tyD d)) := by
  cases h with
  | non => exact .base .non
  | bl b => exact .base (.bl b)
  | int i => exact .base (.int i)
  | str x => exact .base (.str x)
  | lst h t =>
    rcases h with (h | ⟨o, h⟩) | ⟨o, its, n, h1, h2, _⟩
    · exact .base (.lst h)
    · exact .base (.frz h)
    · exact .kList h1 h2
  | tup h t =>
    rcases h with (h | ⟨o, h⟩) | ⟨o, its, n, h1, h2, _⟩
    · exact .base (.tup h)
    · exact .fTuple h
    · exact .kTuple h1 h2
  | rw a => exact absurd hp (by simp [plnD])
  | exc0 h => exact absurd hp (by simp [plnD])
  | exc1 h hx t => exact absurd hp (by simp [plnD])
  | dct h t =>
    rcases h with h | ⟨o, h⟩
    · exact .base (.dK h)
    · exact .fDict h
theorem ev_isi {n : String} {t : Bool} (ha : EV c B a sl p (.st d) sl1) (hb : EV c B b sl1 q (.raw (.ty n)) sl2) (ht : kitB (tyD d) n = some t) (hm : c.mg "isinstance" = none) (hpd : plnD d = true := by first | rfl | assumption) (hg : c.sc.names.lookup ("isinstance" : Str) = some .globalImplicit := by rfl)
    (he : ∀ env, starEach [a, b] env = (false, eval a env) :: starEach [b] env := by intro env; rfl) (he2 : ∀ env, starEach [b] env = (false, eval b env) :: starEach [] env := by intro env; rfl) (hpl : ∀ env, (backTo pos (starEach [b] env)).any (·.1) = false := by intro env; rfl) :
    EV c B (.Call (.Name "isinstance" p1) [a, b] [] pos) sl (p && q) (.st (.bool t)) sl2 := by
  have h := ev_callB (pos := pos) (p1 := p1) (ks := [.st d, .raw (.ty n)]) (k := .st (.bool t)) (r := rIsi c.K) (fun X hX => by have := call_isi (X := X); rw [hX.hK] at this; exact this) (fun B σ sl S H vs I hv Q q => by
    obtain ⟨v, w, rfl, h1, h2⟩ := two_arg hv
    have e2 : w = .ty n := h2
    subst e2
    exact ⟨v, .ty n, .type (tyD d), .type n, t, rfl, .ty n, (Tr.mono I.sh h1).ty hpd, kit_ty ht, q.st I (.bl t)⟩) (av_cons ha (av_cons hb av_nil rfl he2) (by simp [Kd.firm]) he) hm (by decide +kernel) hg he hpl
  rwa [Bool.and_true] at h
end
end Mw

/-! MwJ: promises in two plain forms; what a def gives back. -/
namespace Mw
open PySem PySem.Spec L2
variable [Tb]

/-- nothing is changed -/
def Pure {α : Type} (pre : α → Prop) (args : α → List Sl) (res : α → Kd) : Rel := fun cs k cs' => ∃ a, pre a ∧ cs = args a ∧ k = .ret (res a) ∧ cs' = cs
/-- nothing is changed; it may raise -/
def PureX {α : Type} (pre : α → Prop) (args : α → List Sl) (res : α → Out) : Rel := fun cs k cs' => ∃ a, pre a ∧ cs = args a ∧ k = res a ∧ cs' = cs
/-- one argument is changed -/
def Chg {α : Type} (pre : α → Prop) (args : α → List Sl) (res : α → Kd) (args' : α → List Sl) : Rel := fun cs k cs' => ∃ a, pre a ∧ cs = args a ∧ k = .ret (res a) ∧ cs' = args' a
def plainS : List Sl → Bool
  | [] => true
  | .val _ :: r => plainS r
  | .raw _ :: r => plainS r
  | _ => false
theorem plain_shp : ∀ {cs : List Sl}, plainS cs = true → Shp cs cs
  | [], _ => .nil
  | .val _ :: r, h => .val (plain_shp (cs := r) h)
  | .raw _ :: r, h => .raw (plain_shp (cs := r) h)
  | .no :: _, h => by cases h
  | .own _ :: _, h => by cases h
  | .io _ _ :: _, h => by cases h
  | .prv _ _ :: _, h => by cases h
theorem plain_io : ∀ {cs : List Sl} {i j : Nat} {o : Ow}, plainS cs = true → cs[i]? ≠ some (.io j o)
  | [], i, j, o, _ => by simp
  | .val _ :: r, 0, j, o, _ => by simp
  | .raw _ :: r, 0, j, o, _ => by simp
  | .val _ :: r, i + 1, j, o, h => by simpa using plain_io (cs := r) (i := i) h
  | .raw _ :: r, i + 1, j, o, h => by simpa using plain_io (cs := r) (i := i) h
  | .no :: _, _, _, _, h => by cases h
  | .own _ :: _, _, _, _, h => by cases h
  | .io _ _ :: _, _, _, _, h => by cases h
  | .prv _ _ :: _, _, _, _, h => by cases h
def okK : Kd → Bool
  | .st _ => true
  | .fr _ => true
  | .raw _ => true
  | .ft _ => true
  | _ => false
theorem okK_h {k : Kd} (h : okK k = true) : k.firm = true ∧ ∀ i, k ≠ .at i := by
  cases k with
  | st d => exact ⟨rfl, fun i e => by cases e⟩
  | fr d => exact ⟨rfl, fun i e => by cases e⟩
  | raw d => exact ⟨rfl, fun i e => by cases e⟩
  | ls d => cases h
  | nw d => cases h
  | ft d => exact ⟨rfl, fun i e => by cases e⟩
  | «at» d => cases h
abbrev retP (k : Kd) : Rt := { nx := fun _ => k = .st .none, rt := fun k' _ => k' = k }
theorem GO.mono {c : CxD} {B : Bs} {ss : List Stmt} {sl : List Sl} {R R' : Rt} (h : GO c B ss sl R) (h1 : ∀ s, R.nx s → R'.nx s) (h2 : ∀ k s, R.rt k s → R'.rt k s) (h3 : ∀ s, R.bk s → R'.bk s := by intro s h; exact h) (h4 : ∀ s, R.ct s → R'.ct s := by intro s h; exact h) (h5 : ∀ x s, R.ex x s → R'.ex x s := by intro x s h; exact h) : GO c B ss sl R' := by
  obtain ⟨t, ht, hs⟩ := h
  exact ⟨t, ht, fun S H σ I D q => hs S H σ I D ⟨fun S' H' σ' sl' s I' x => q.nx S' H' σ' sl' s I' (h1 _ x), fun S' H' σ' sl' v k s I' x y => q.rt S' H' σ' sl' v k s I' x (h2 _ _ y), fun S' H' σ' sl' s I' x => q.bk S' H' σ' sl' s I' (h3 _ x), fun S' H' σ' sl' s I' x => q.ct S' H' σ' sl' s I' (h4 _ x), fun S' H' σ' sl' cls dx y s I' z x => q.ex S' H' σ' sl' cls dx y s I' z (h5 _ _ x)⟩⟩
section
variable {P : Program} {w : World} {K : PySem.W.Frag} {mg : Str → Option Value} {base : Heap}
theorem pure_fn {α : Type} {pre : α → Prop} {args : α → List Sl} {res : α → Kd} {x qual : Str} {st : Stmt} {f : Addr} {fd : FuncData} {N ps : List Str} {lv : Nat} (F : Fun K x qual st f fd) (Sc : FnScope N ps (defScope st)) (hl : ∀ a, (args a).length = ps.length) (hn : ∀ a, plainS (args a) = true) (hk : ∀ a, okK (res a) = true)
    (body : ∀ (E : XK) (B : Bs) (a : α), pre a → GO ⟨P, w, K, mg, base, N, defScope st, lv, fun cls d _ H => E cls d H, true, ⟨fd.code, qual ++ ".<locals>.", fun _ => True⟩⟩ B (defBody st) (pad (args a) N.length) (retP (res a))) : FnG P w K mg base (lv + 1) f fd ps (Prm K mg (Pure pre args res)) :=
  prm_of F Sc (fun cs k cs' h => by obtain ⟨a, _, rfl, rfl, rfl⟩ := h; exact ⟨hl a, plain_shp (hn a)⟩) (fun cs k cs' h => by obtain ⟨a, _, rfl, rfl, rfl⟩ := h; exact okK_h (hk a)) fun E B cs k cs' h => by
    obtain ⟨a, hp, rfl, rfl, rfl⟩ := h
    have io : ∀ sl, IoIn (args a) sl := fun sl i j o e => absurd e (plain_io (hn a))
    exact (body E B a hp).mono (fun s h => ⟨congrArg Out.ret h, io s⟩) (fun k s h => ⟨congrArg Out.ret h.symm, io s⟩) (fun _ h => h) (fun _ h => h) (fun x s h => h.elim)
abbrev retX (u : Out) : Rt := { nx := fun _ => u = .ret (.st .none), rt := fun k' _ => u = .ret k', ex := fun x _ => u = .exn x }
def okO : Out → Bool
  | .ret k => okK k
  | .exn _ => true
theorem okO_h {u : Out} (h : okO u = true) : u.ok := by
  cases u with
  | ret k => exact okK_h h
  | exn x => trivial
theorem pureX_fn {α : Type} {pre : α → Prop} {args : α → List Sl} {res : α → Out} {x qual : Str} {st : Stmt} {f : Addr} {fd : FuncData} {N ps : List Str} {lv : Nat} (F : Fun K x qual st f fd) (Sc : FnScope N ps (defScope st)) (hl : ∀ a, (args a).length = ps.length) (hn : ∀ a, plainS (args a) = true) (hk : ∀ a, okO (res a) = true)
    (body : ∀ (E : XK) (B : Bs) (a : α), pre a → GO ⟨P, w, K, mg, base, N, defScope st, lv, fun cls d _ H => E cls d H, true, ⟨fd.code, qual ++ ".<locals>.", fun _ => True⟩⟩ B (defBody st) (pad (args a) N.length) (retX (res a))) : FnG P w K mg base (lv + 1) f fd ps (Prm K mg (PureX pre args res)) :=
  prm_of F Sc (fun cs k cs' h => by obtain ⟨a, _, rfl, rfl, rfl⟩ := h; exact ⟨hl a, plain_shp (hn a)⟩) (fun cs k cs' h => by obtain ⟨a, _, rfl, rfl, rfl⟩ := h; exact okO_h (hk a)) fun E B cs k cs' h => by
    obtain ⟨a, hp, rfl, rfl, rfl⟩ := h
    have io : ∀ sl, IoIn (args a) sl := fun sl i j o e => absurd e (plain_io (hn a))
    exact (body E B a hp).mono (fun s h => ⟨h, io s⟩) (fun k s h => ⟨h, io s⟩) (fun _ h => h) (fun _ h => h) (fun x s h => ⟨h, io s⟩)
theorem chg_fn {α : Type} {pre : α → Prop} {args args' : α → List Sl} {res : α → Kd} {x qual : Str} {st : Stmt} {f : Addr} {fd : FuncData} {N ps : List Str} {lv : Nat} (F : Fun K x qual st f fd) (Sc : FnScope N ps (defScope st)) (hl : ∀ a, (args a).length = ps.length) (hn : ∀ a, Shp (args a) (args' a)) (hk : ∀ a, okK (res a) = true)
    (body : ∀ (E : XK) (B : Bs) (a : α), pre a → GO ⟨P, w, K, mg, base, N, defScope st, lv, fun cls d _ H => E cls d H, true, ⟨fd.code, qual ++ ".<locals>.", fun _ => True⟩⟩ B (defBody st) (pad (args a) N.length) (toRt (res a) (args' a))) : FnG P w K mg base (lv + 1) f fd ps (Prm K mg (Chg pre args res args')) :=
  prm_of F Sc (fun cs k cs' h => by obtain ⟨a, _, rfl, rfl, rfl⟩ := h; exact ⟨hl a, hn a⟩) (fun cs k cs' h => by obtain ⟨a, _, rfl, rfl, rfl⟩ := h; exact okK_h (hk a)) fun E B cs k cs' h => by
    obtain ⟨a, hp, rfl, rfl, rfl⟩ := h
    exact (body E B a hp).mono (fun s h => ⟨congrArg Out.ret h.1, h.2⟩) (fun k s h => ⟨congrArg Out.ret h.1.symm, h.2⟩) (fun _ h => h) (fun _ h => h) (fun x s h => h.elim)
/-- one place alone is changed -/
theorem ioin_at {cs' sl : List Sl} (m : Nat) {o : Ow} (h : ∀ (i j : Nat) (o' : Ow), cs'[i]? = some (.io j o') → j = 0 ∧ o' = o) (hm : sl[m]? = some (.io 0 o)) : IoIn cs' sl := fun i j o' e => by
  obtain ⟨rfl, rfl⟩ := h i j o' e
  exact ⟨m, hm⟩
end
section
variable {c : CxD} {B : Bs} {e a b : Expr} {es : List Expr} {ss rest : List Stmt} {sl sl1 sl2 : List Sl} {p q : Bool} {k : Kd} {ks ks' : List Kd} {pos p1 : Pos} {R : Rt}
theorem go_retO (i : Nat) {x : Str} {o : Ow} (hr : R.rt (.fr o) (sl.set i .no)) (hs : sl[i]? = some (.own o) := by rfl) (hN : c.N[i]? = some x := by rfl) (hv : Vis c.sc x := by first | exact .inl rfl | exact .inr (.inl rfl) | exact .inr (.inr rfl)) (h1 : (x == ("__debug__" : Str)) = false := by decide) (h2 : (x == ("__classdict__" : Str)) = false := by decide) :
    GO c B (.Return (some (.Name x p1)) pos :: rest) sl R := by
  refine go_cons (M := fun _ => False) ⟨tRet (tVar i), fun X hX => ps_ret (pe_var (by rw [hX.hN]; exact hN) (hX.v x hv) h1 h2), fun S H σ I D q => ?_⟩ fun _ h => h.elim
  obtain ⟨y, hy, l, rfl, n, ow, n0⟩ := I.slot i _ hs
  have I' : Stt c.K B S H σ (sl.set i .no) := I.forget i
  refine ⟨.ref l, hy, q.rt S H σ _ _ (.fr o) (.refl _) I' ⟨l, rfl, n, n0, ow, fun ⟨j, y⟩ => ?_⟩ hr⟩
  rcases fpAt_setS y with ⟨h1, f1⟩ | ⟨h1, _, _, f1⟩
  · exact h1 (I.dis j i l f1 (.of_ow hs rfl hy))
  · exact fpS_no f1
theorem go_retN (hr : R.rt (.st .none) sl) : GO c B (.Return none pos :: rest) sl R := by
  refine go_cons (M := fun _ => False) ⟨tRetN, fun X hX => ps_retN, fun S H σ I D q => ?_⟩ fun _ h => h.elim
  exact q.rt S H σ sl .non (.st .none) (.refl _) I .non hr
/-- a call of a def that changes nothing -/
theorem ev_callP {α : Type} {pre : α → Prop} {args : α → List Sl} {res : α → Kd} {x : Str} {st : Stmt} {ps : List Str} {lv : Nat} {P : Program} {w : World} {K : PySem.W.Frag} {mg : Str → Option Value} {base : Heap} (v : α) (F : DefOk P w K mg base x st ps lv (Prm K mg (Pure pre args res))) (ha : AV c B (e :: es) sl p ks sl1) (hcs : ArgP ks (args v)) (hp : pre v) (hk : okK (res v) = true := by rfl) (hc : DefOk P w K mg base x st ps lv (Prm K mg (Pure pre args res)) → c.Def x st ps lv (Prm c.K c.mg (Pure pre args res)) := by exact fun h => h) (hlv : lv ≤ c.lv := by exact Nat.le_of_ble_eq_true rfl) (hg : c.sc.names.lookup x = some .globalImplicit := by rfl)
    (hdb : (x == ("__debug__" : Str)) = false := by decide) (he : ∀ env, starEach (e :: es) env = (false, eval e env) :: starEach es env := by intro env; rfl) (hpl : ∀ env, (backTo pos (starEach es env)).any (·.1) = false := by intro env; rfl) : EV c B (.Call (.Name x p1) (e :: es) [] pos) sl p (res v) sl1 :=
  ev_call (hc F) ha hcs ⟨v, hp, rfl, rfl, rfl⟩ (okK_h hk) hlv hg hdb he hpl
theorem ev_callPk {α : Type} {pre : α → Prop} {args : α → List Sl} {res : α → Kd} {x : Str} {st : Stmt} {ps nms : List Str} {lv : Nat} {kws : List Keyword} {ix : List Nat} {P : Program} {w : World} {K : PySem.W.Frag} {mg : Str → Option Value} {base : Heap} (v : α) (F : DefOk P w K mg base x st ps lv (Prm K mg (Pure pre args res))) (kb : KwOk x st ps nms 0 ix) (ha : KV c B kws sl p ks sl1) (hcs : ArgP (pick ks ix) (args v)) (hp : pre v) (hk : okK (res v) = true := by rfl) (hc : DefK P w K mg base x st ps lv (Prm K mg (Pure pre args res)) → c.DefK x st ps lv (Prm c.K c.mg (Pure pre args res)) := by exact fun h => h) (hlv : lv ≤ c.lv := by exact Nat.le_of_ble_eq_true rfl) (hg : c.sc.names.lookup x = some .globalImplicit := by rfl)
    (hlk : ks.length = kws.length := by rfl) (hln : kws.length = nms.length := by rfl) (hall : ∀ env, (backToKw pos (keywordEach kws env)).all (·.1.isSome) = true := by intro _; rfl) (hks : ∀ env, (backToKw pos (keywordEach kws env)).filterMap (·.1) = nms := by intro _; rfl)
    (hdb : (x == ("__debug__" : Str)) = false := by decide) (hpl : ∀ env, ((backTo pos (starEach [] env)).any (·.1) || (backToKw pos (keywordEach kws env)).any (·.1.isNone)) = false := by intro _; rfl) : EV c B (.Call (.Name x p1) [] kws pos) sl p (res v) sl1 :=
  ev_callK (hc F.toK) kb ha hcs ⟨v, hp, rfl, rfl, rfl⟩ (okK_h hk) hlv hg hlk hln hall hks hdb hpl
/-- a call of a def that changes the object in slot i -/
theorem ev_callX {α : Type} {pre : α → Prop} {args args' : α → List Sl} {res : α → Kd} {x : Str} {st : Stmt} {ps : List Str} {lv : Nat} {P : Program} {w : World} {K : PySem.W.Frag} {mg : Str → Option Value} {base : Heap} (i : Nat) {s : Sl} {o : Ow} (o' : Ow) (v : α) (F : DefOk P w K mg base x st ps lv (Prm K mg (Chg pre args res args'))) (ha : AV c B (e :: es) sl p ks sl1) (hcs : ArgC sl1 i o ks (args v)) (hp : pre v) (hio : ∀ (m : Nat), (args v)[m]? = some (.io 0 o) → (args' v)[m]? = some (.io 0 o'))
    (hk : okK (res v) = true := by rfl) (hs : sl1[i]? = some s := by rfl) (ho : s.ow = some o := by rfl) (hc : DefOk P w K mg base x st ps lv (Prm K mg (Chg pre args res args')) → c.Def x st ps lv (Prm c.K c.mg (Chg pre args res args')) := by exact fun h => h) (hlv : lv ≤ c.lv := by exact Nat.le_of_ble_eq_true rfl) (hg : c.sc.names.lookup x = some .globalImplicit := by rfl)
    (hdb : (x == ("__debug__" : Str)) = false := by decide) (he : ∀ env, starEach (e :: es) env = (false, eval e env) :: starEach es env := by intro env; rfl) (hpl : ∀ env, (backTo pos (starEach es env)).any (·.1) = false := by intro env; rfl) : EV c B (.Call (.Name x p1) (e :: es) [] pos) sl false (res v) (sl1.set i (s.put o')) :=
  ev_callC i (hc F) ha hcs ⟨v, hp, rfl, rfl, rfl⟩ hio (okK_h hk) hs ho hlv hg hdb he hpl
end
end Mw

/-! MwK: facts often wanted. -/
namespace Mw
open PySem PySem.Spec L2
variable [Tb]
/-! ## which type is which -/
theorem kb_NoneType_int : kitB "NoneType" "int" = some false := by decide +kernel
theorem kb_NoneType_bool : kitB "NoneType" "bool" = some false := by decide +kernel
theorem kb_NoneType_list : kitB "NoneType" "list" = some false := by decide +kernel
theorem kb_NoneType_dict : kitB "NoneType" "dict" = some false := by decide +kernel
theorem kb_NoneType_str : kitB "NoneType" "str" = some false := by decide +kernel
theorem kb_NoneType_tuple : kitB "NoneType" "tuple" = some false := by decide +kernel
theorem kb_bool_int : kitB "bool" "int" = some true := by decide +kernel
theorem kb_bool_bool : kitB "bool" "bool" = some true := by decide +kernel
theorem kb_bool_list : kitB "bool" "list" = some false := by decide +kernel
theorem kb_bool_dict : kitB "bool" "dict" = some false := by decide +kernel
theorem kb_bool_str : kitB "bool" "str" = some false := by decide +kernel
theorem kb_bool_tuple : kitB "bool" "tuple" = some false := by decide +kernel
theorem kb_int_int : kitB "int" "int" = some true := by decide +kernel
theorem kb_int_bool : kitB "int" "bool" = some false := by decide +kernel
theorem kb_int_list : kitB "int" "list" = some false := by decide +kernel
theorem kb_int_dict : kitB "int" "dict" = some false := by decide +kernel
theorem kb_int_str : kitB "int" "str" = some false := by decide +kernel
theorem kb_int_tuple : kitB "int" "tuple" = some false := by decide +kernel
theorem kb_str_int : kitB "str" "int" = some false := by decide +kernel
theorem kb_str_bool : kitB "str" "bool" = some false := by decide +kernel
theorem kb_str_list : kitB "str" "list" = some false := by decide +kernel
theorem kb_str_dict : kitB "str" "dict" = some false := by decide +kernel
theorem kb_str_str : kitB "str" "str" = some true := by decide +kernel
theorem kb_str_tuple : kitB "str" "tuple" = some false := by decide +kernel
theorem kb_list_int : kitB "list" "int" = some false := by decide +kernel
theorem kb_list_bool : kitB "list" "bool" = some false := by decide +kernel
theorem kb_list_list : kitB "list" "list" = some true := by decide +kernel
theorem kb_list_dict : kitB "list" "dict" = some false := by decide +kernel
theorem kb_list_str : kitB "list" "str" = some false := by decide +kernel
theorem kb_list_tuple : kitB "list" "tuple" = some false := by decide +kernel
theorem kb_tuple_int : kitB "tuple" "int" = some false := by decide +kernel
theorem kb_tuple_bool : kitB "tuple" "bool" = some false := by decide +kernel
theorem kb_tuple_list : kitB "tuple" "list" = some false := by decide +kernel
theorem kb_tuple_dict : kitB "tuple" "dict" = some false := by decide +kernel
theorem kb_tuple_str : kitB "tuple" "str" = some false := by decide +kernel
theorem kb_tuple_tuple : kitB "tuple" "tuple" = some true := by decide +kernel
theorem kb_dict_int : kitB "dict" "int" = some false := by decide +kernel
theorem kb_dict_bool : kitB "dict" "bool" = some false := by decide +kernel
theorem kb_dict_list : kitB "dict" "list" = some false := by decide +kernel
theorem kb_dict_dict : kitB "dict" "dict" = some true := by decide +kernel
theorem kb_dict_str : kitB "dict" "str" = some false := by decide +kernel
theorem kb_dict_tuple : kitB "dict" "tuple" = some false := by decide +kernel
/-! ## slices -/
theorem cut_to {α : Type} (ds : List α) (n : Nat) : cutD ds none (some (n : Int)) = ds.take n := by
  unfold cutD
  rw [HT.sIx_nat, HT.sIx_none, Nat.sub_zero, List.drop_zero]
  rcases Nat.le_total n ds.length with h | h
  · rw [Nat.min_eq_left h]
  · rw [Nat.min_eq_right h, List.take_length, List.take_of_length_le h]
theorem cut_from {α : Type} (ds : List α) (n : Nat) : cutD ds (some (n : Int)) none = ds.drop n := by
  unfold cutD
  rw [HT.sIx_nat, HT.sIx_none]
  rcases Nat.le_total n ds.length with h | h
  · rw [Nat.min_eq_left h]
    exact List.take_of_length_le (by rw [List.length_drop]; exact Nat.le_refl _)
  · rw [Nat.min_eq_right h, Nat.sub_self, List.take_zero, List.drop_of_length_le h]
theorem nums_take (xs : List Int) (n : Nat) : (nums xs).take n = nums (xs.take n) := by unfold nums; rw [List.map_take]
theorem nums_drop (xs : List Int) (n : Nat) : (nums xs).drop n = nums (xs.drop n) := by unfold nums; rw [List.map_drop]
abbrev kL (xs : List Int) : Sl := .val (.list (nums xs))
abbrev kI (i : Int) : Sl := .val (.int i)
abbrev kB (b : Bool) : Sl := .val (.bool b)
abbrev kO (xs : List Int) : Sl := .own (.lst (nums xs))
section
variable {c : CxD} {B : Bs} {e a b : Expr} {es : List Expr} {ss rest : List Stmt} {sl sl1 sl2 : List Sl} {p q : Bool} {k k1 : Kd} {ks ks' : List Kd} {pos p1 p2 : Pos} {R : Rt} {ds : List PyData} {xs : List Int} {n : Nat}
theorem ev_sliceTo (ha : EV c B a sl p k1 sl1) (h2 : EV c B b sl1 true (.st (.int (n : Int))) sl1) (hl : LsK k1 ds := by first | exact .st | exact .ls | exact .fr) : EV c B (.Subscript a (.Slice none (some b) none p2) pos) sl p (.fr (.lst (ds.take n))) sl1 :=
  (ev_slice ha so_none (so_some h2) hl).to (by rw [cut_to])
theorem ev_sliceFrom (ha : EV c B a sl p k1 sl1) (h2 : EV c B b sl1 true (.st (.int (n : Int))) sl1) (hl : LsK k1 ds := by first | exact .st | exact .ls | exact .fr) : EV c B (.Subscript a (.Slice (some b) none none p2) pos) sl p (.fr (.lst (ds.drop n))) sl1 :=
  (ev_slice ha (so_some h2) so_none hl).to (by rw [cut_from])
theorem ev_sliceToN (ha : EV c B a sl p k1 sl1) (h2 : EV c B b sl1 true (.st (.int (n : Int))) sl1) (hl : LsK k1 (nums xs) := by first | exact .st | exact .ls | exact .fr) : EV c B (.Subscript a (.Slice none (some b) none p2) pos) sl p (.fr (.lst (nums (xs.take n)))) sl1 :=
  (ev_sliceTo ha h2 hl).to (by rw [nums_take])
theorem ev_sliceFromN (ha : EV c B a sl p k1 sl1) (h2 : EV c B b sl1 true (.st (.int (n : Int))) sl1) (hl : LsK k1 (nums xs) := by first | exact .st | exact .ls | exact .fr) : EV c B (.Subscript a (.Slice (some b) none none p2) pos) sl p (.fr (.lst (nums (xs.drop n)))) sl1 :=
  (ev_sliceFrom ha h2 hl).to (by rw [nums_drop])
/-- an item of a list of numbers -/
theorem ev_ixN {x : Int} (ha : EV c B a sl p k1 sl1) (hb : EV c B b sl1 q (.st (.int (n : Int))) sl2) (h : xs[n]? = some x) (hl : LsK k1 (nums xs) := by first | exact .st | exact .ls | exact .fr) (hs : PlainIx b := by exact fun _ _ => rfl) (hk : (q || k1.firm) = true := by first | rfl | (simp [Kd.firm])) : EV c B (.Subscript a b pos) sl (p && q) (.st (.int x)) sl2 :=
  ev_ix ha hb hl (atI_nat (get_nums h)) hs hk
theorem numbered_nums {i : Nat} {d : PyData} (h : (numbered (nums xs))[i]? = some d) : ∃ x, xs[i]? = some x ∧ d = .tuple [.int (i : Nat), .int x] := by
  have hi : i < (nums xs).length := by
    have := (List.getElem?_eq_some_iff.mp h).1
    rwa [numbered_len] at this
  rw [numbered_get (List.getElem?_eq_getElem hi)] at h
  obtain ⟨x, hx, e⟩ := nums_get (List.getElem?_eq_getElem hi)
  exact ⟨x, hx, by rw [← e]; exact (Option.some.inj h).symm⟩
theorem upI_at {lo : Int} {m i : Nat} {d : PyData} (h : (upI lo m)[i]? = some d) : i < m ∧ d = .int (lo + i) := by
  have hi : i < m := by
    have := (List.getElem?_eq_some_iff.mp h).1
    rwa [upI_len] at this
  rw [upI_get hi] at h
  exact ⟨hi, (Option.some.inj h).symm⟩
/-- powers: the base below 2 ^ m -/
theorem pow_ok {i j : Int} (m : Nat) (hi : i.natAbs < 2 ^ m) (hm : 0 < m) (hj : 0 ≤ j) (h : (m : Int) * j ≤ 2 ^ 27) : CPowW i j := by
  refine ⟨hj, ?_⟩
  have h1 := PySem.Flt.log2_lt_of hm hi
  have h2 : (Builtin.Int.intBits i : Int) ≤ m := by
    unfold Builtin.Int.intBits
    split
    · exact Int.natCast_nonneg m
    · have : i.natAbs.log2 + 1 ≤ m := h1
      exact_mod_cast this
  exact Int.le_trans (Int.mul_le_mul_of_nonneg_right h2 hj) h
theorem natAbs_pow_lt {i : Int} {m : Nat} (n : Nat) (hi : i.natAbs < 2 ^ m) (hn : 0 < n) : (i ^ n).natAbs < 2 ^ (m * n) := by
  rw [Int.natAbs_pow, Nat.pow_mul]
  exact Nat.pow_lt_pow_left hi (by omega)
/-- products: both below 2 ^ 400000 -/
theorem mul_ok {i j : Int} (a b : Nat) (ha : i.natAbs < 2 ^ a) (hb : j.natAbs < 2 ^ b) (h0 : 0 < a := by decide) (h1 : 0 < b := by decide) (h : a + b ≤ 1000000 := by decide) : CMulW i j := wide_mul ha hb h0 h1 h
end
end Mw

/-! MwL: isinstance of a built-in class. -/
namespace Mw
open PySem PySem.Spec L2
variable [Tb]
inductive Ty6 where
  | int | bool | list | dict | str | tuple
def Ty6.nm : Ty6 → String
  | .int => "int" | .bool => "bool" | .list => "list" | .dict => "dict" | .str => "str" | .tuple => "tuple"
def Ty6.st : Ty6 → Str
  | .int => "int" | .bool => "bool" | .list => "list" | .dict => "dict" | .str => "str" | .tuple => "tuple"
def isK : PyData → Ty6 → Bool
  | .none, _ => false
  | .bool _, .bool => true
  | .bool _, .int => true
  | .int _, .int => true
  | .str _, .str => true
  | .list _, .list => true
  | .tuple _, .tuple => true
  | .dict _, .dict => true
  | _, _ => false
theorem kit_isK : ∀ (d : PyData) (n : Ty6), kitB (tyD d) n.nm = some (isK d n) := by
  intro d n
  cases d <;> cases n <;> first | exact kb_NoneType_int | exact kb_NoneType_bool | exact kb_NoneType_list | exact kb_NoneType_dict | exact kb_NoneType_str | exact kb_NoneType_tuple | exact kb_bool_int | exact kb_bool_bool | exact kb_bool_list | exact kb_bool_dict | exact kb_bool_str | exact kb_bool_tuple | exact kb_int_int | exact kb_int_bool | exact kb_int_list | exact kb_int_dict | exact kb_int_str | exact kb_int_tuple | exact kb_str_int | exact kb_str_bool | exact kb_str_list | exact kb_str_dict | exact kb_str_str | exact kb_str_tuple | exact kb_list_int | exact kb_list_bool | exact kb_list_list | exact kb_list_dict | exact kb_list_str | exact kb_list_tuple | exact kb_tuple_int | exact kb_tuple_bool | exact kb_tuple_list | exact kb_tuple_dict | exact kb_tuple_str | exact kb_tuple_tuple | exact kb_dict_int | exact kb_dict_bool | exact kb_dict_list | exact kb_dict_dict | exact kb_dict_str | exact kb_dict_tuple
theorem sw_fold {ts vs : List Expr} {kt k2 : Nat} {pt pt2 : Pos} (h : vs.all (foldedForSure 8) = true) (env : Env) : swappedStores [.Tuple ts kt pt] (.Tuple vs k2 pt2) env = pure none := by
  unfold swappedStores
  simp only [h, if_true]
  repeat (first | rfl | split)
theorem boot_Ty6 (n : Ty6) : bootBuiltins n.st = some (.type n.nm) := by cases n <;> decide +kernel
section
variable {c : CxD} {B : Bs} {e a b d3 : Expr} {sl sl1 : List Sl} {p : Bool} {pos p1 p2 : Pos} {d : PyData}
theorem ev_isB (n : Ty6) (ha : EV c B a sl p (.st d) sl1) (hm : c.mg "isinstance" = none) (hn : c.mg n.st = none) (hpd : plnD d = true := by first | rfl | assumption) (hg : c.sc.names.lookup ("isinstance" : Str) = some .globalImplicit := by rfl) (hg2 : c.sc.names.lookup n.st = some .globalImplicit := by rfl)
    (he : ∀ env, starEach [a, .Name n.st p2] env = (false, eval a env) :: starEach [.Name n.st p2] env := by intro env; rfl) (hpl : ∀ env, (backTo pos (starEach [.Name n.st p2] env)).any (·.1) = false := by intro env; rfl) :
    EV c B (.Call (.Name "isinstance" p1) [a, .Name n.st p2] [] pos) sl p (.st (.bool (isK d n))) sl1 := by
  have h := ev_isi (pos := pos) (p1 := p1) ha (ev_gty (pos := p2) hn (boot_Ty6 n) hg2 (by cases n <;> decide) (by cases n <;> decide)) (kit_isK d n) hm hpd hg he (fun _ => rfl) hpl
  rwa [Bool.and_true] at h
theorem tv_to {t u : Bool} (h : TV c B e sl p t sl1) (ht : t = u) : TV c B e sl p u sl1 := ht ▸ h
theorem ev_sl {k : Kd} {sl2 : List Sl} (h : EV c B e sl p k sl1) (hs : sl1 = sl2) : EV c B e sl p k sl2 := hs ▸ h
theorem ev_both {k k' : Kd} {sl2 : List Sl} (h : EV c B e sl p k sl1) (hk : k = k') (hs : sl1 = sl2) : EV c B e sl p k' sl2 := hs ▸ hk ▸ h
theorem b01 (b : Bool) : -(2 ^ 63) ≤ (if b = true then (1 : Int) else 0) ∧ (if b = true then (1 : Int) else 0) < 2 ^ 63 := by cases b <;> decide
theorem b01n (b : Bool) {n : Nat} (h : n ≤ 1000000) : n * (if b = true then (1 : Int) else 0).toNat ≤ 1000000 := by cases b <;> simp <;> omega
theorem b01f {α : Type} (b : Bool) (x : α) : (List.replicate (if b = true then (1 : Int) else 0).toNat [x]).flatten.length ≤ 1 := by cases b <;> simp
end
end Mw

/-! MwM: objects hidden for a while; a list of new objects and the loop over it. -/
namespace Mw
open PySem PySem.Spec L2
variable [Tb]

def hideB (B : Bs) (F : Hp) : Bs := ⟨B.S0, fun a => (match F a with | some o => some o | none => B.H0 a), B.ls⟩
section
variable {K : PySem.W.Frag} {B : Bs} {F S S' H H' : Hp} {σ : L2.St} {sl : List Sl} {v : V} {k : Kd} {a : Addr} {o : HO}
theorem hideB_none (h : (hideB B F).H0 a = none) : F a = none ∧ B.H0 a = none := by
  unfold hideB at h
  dsimp only at h
  cases e : F a with
  | none => rw [e] at h; exact ⟨rfl, h⟩
  | some u => rw [e] at h; cases h
theorem hideB_some (h : F a = some o) : (hideB B F).H0 a = some o := by unfold hideB; dsimp only; rw [h]
theorem hideB_old (h : F a = none) : (hideB B F).H0 a = B.H0 a := by unfold hideB; dsimp only; rw [h]
theorem Stt.hide (I : Stt K B S H σ sl) (hF : ∀ a o, F a = some o → H a = some o ∧ S a = none ∧ B.H0 a = none ∧ ¬ OwnAt σ sl a ∧ ¬ Hard o) : Stt K (hideB B F) S H σ sl where
  s0 := I.s0
  sh := I.sh
  new := fun a o e e0 => by
    have h0 := I.new a o e e0
    cases e2 : F a with
    | none => rw [hideB_old e2]; exact h0
    | some u => have := (hF a u e2).2.1; rw [e] at this; cases this
  keep := fun a o e hn ht => by
    cases e2 : F a with
    | none => rw [hideB_old e2] at e; exact I.keep a o e hn ht
    | some u => rw [hideB_some e2] at e; cases e; exact (hF a _ e2).1
  dom := fun a o e => by
    cases e2 : F a with
    | none => rw [hideB_old e2] at e; exact I.dom a o e
    | some u => exact ⟨u, (hF a _ e2).1⟩
  lsd := fun l hl => by
    obtain ⟨o, e⟩ := I.lsd l hl
    cases e2 : F l with
    | none => exact ⟨o, by rw [hideB_old e2]; exact e⟩
    | some u => exact ⟨u, hideB_some e2⟩
  len := I.len
  slot := fun i s e => by
    obtain ⟨x, hx, ok⟩ := I.slot i s e
    refine ⟨x, hx, ?_⟩
    cases s with
    | no => trivial
    | val d => exact ok
    | raw u => exact ok
    | io j o => exact ok
    | own o =>
      obtain ⟨l, e1, n, ow, n0⟩ := ok
      refine ⟨l, e1, n, ow, ?_⟩
      cases e2 : F l with
      | none => rw [hideB_old e2]; exact n0
      | some u => exact absurd ⟨i, _, x, e, hx, fpS_own.mpr e1⟩ (hF l u e2).2.2.2.1
    | prv d fp =>
      obtain ⟨v, e1, t, nd, n⟩ := ok
      refine ⟨v, e1, t, nd, fun a m => ⟨(n a m).1, ?_⟩⟩
      cases e2 : F a with
      | none => rw [hideB_old e2]; exact (n a m).2
      | some u => exact absurd ⟨i, _, x, e, hx, fpS_prv.mpr m⟩ (hF a u e2).2.2.2.1
  dis := I.dis
  tabs := I.tabs
  snt := I.snt
  sm := by
    obtain ⟨⟨φ, e, hs⟩, n⟩ := I.sm
    refine ⟨?_, n⟩
    cases e2 : F sysModules with
    | none => exact ⟨φ, by rw [hideB_old e2]; exact e, hs⟩
    | some u =>
      obtain ⟨_, _, h0, _⟩ := hF _ u e2
      rw [e] at h0
      cases h0
  tbk := fun a ps e => by
    cases e2 : F a with
    | none => rw [hideB_old e2] at e; exact I.tbk a ps e
    | some u => rw [hideB_some e2] at e; cases e; exact absurd (.inl ⟨ps, rfl⟩) (hF a _ e2).2.2.2.2
theorem Stt.unhide (I : Stt K (hideB B F) S H σ sl) (hF : ∀ a o, F a = some o → B.H0 a = none ∧ B.S0 a = none ∧ ¬ Hard o) (hl : ∀ l, l ∈ B.ls → ∃ o, B.H0 l = some o) : Stt K B S H σ sl ∧ ∀ a o, F a = some o → H a = some o ∧ S a = none ∧ ¬ OwnAt σ sl a := by
  have nls : ∀ a o, F a = some o → a ∉ B.ls := fun a o e h => by
    obtain ⟨u, eu⟩ := hl a h
    rw [(hF a o e).1] at eu
    cases eu
  refine ⟨⟨I.s0, I.sh, fun a o e e0 => (hideB_none (I.new a o e e0)).2, fun a o e hn ht => ?_, fun a o e => ?_, hl, I.len, fun i s e => ?_, I.dis, I.tabs, (fun a ps e => ?_), I.snt, by
    obtain ⟨⟨φ, e, hs⟩, n⟩ := I.sm
    refine ⟨?_, n⟩
    cases e2 : F sysModules with
    | none => exact ⟨φ, by rw [hideB_old e2] at e; exact e, hs⟩
    | some u =>
      rw [hideB_some e2] at e
      cases e
      exact absurd (.inr ⟨φ, rfl⟩) (hF _ _ e2).2.2⟩, fun a o e => ⟨?_, ?_, ?_⟩⟩
  · cases e2 : F a with
    | none => exact I.keep a o (by rw [hideB_old e2]; exact e) hn ht
    | some u => rw [(hF a u e2).1] at e; cases e
  · cases e2 : F a with
    | none => exact I.dom a o (by rw [hideB_old e2]; exact e)
    | some u => exact ⟨u, I.keep a u (hideB_some e2) (nls a u e2) (Hard.nt (hF a u e2).2.2)⟩
  · obtain ⟨x, hx, ok⟩ := I.slot i s e
    refine ⟨x, hx, ?_⟩
    cases s with
    | no => trivial
    | val d => exact ok
    | raw u => exact ok
    | io j o => exact ok
    | own o =>
      obtain ⟨l, e1, n, ow, n0⟩ := ok
      exact ⟨l, e1, n, ow, (hideB_none n0).2⟩
    | prv d fp =>
      obtain ⟨v, e1, t, nd, n⟩ := ok
      exact ⟨v, e1, t, nd, fun a m => ⟨(n a m).1, (hideB_none (n a m).2).2⟩⟩
  · cases e2 : F a with
    | none => exact I.tbk a ps (by rw [hideB_old e2]; exact e)
    | some u => rw [(hF a u e2).1] at e; cases e
  · exact I.keep a o (hideB_some e) (nls a o e) (Hard.nt (hF a o e).2.2)
  · cases e2 : S a with
    | none => rfl
    | some u => have := (hideB_none (I.new a u e2 (hF a o e).2.1)).1; rw [e] at this; cases this
  · rintro ⟨i, s, x, h1, h2, h3⟩
    obtain ⟨x', hx, ok⟩ := I.slot i s h1
    rw [h2] at hx
    cases hx
    cases s with
    | no => exact fpS_no h3
    | val d => exact fpS_val h3
    | raw u => exact fpS_raw h3
    | io j o3 =>
      obtain ⟨l, e1, n, ow, hj⟩ := ok
      rw [fpS_io.mp h3] at e1
      cases e1
      exact nls a o e (List.mem_of_getElem? hj)
    | own o3 =>
      obtain ⟨l, e1, n, ow, n0⟩ := ok
      rw [fpS_own.mp h3] at e1
      cases e1
      have := (hideB_none n0).1
      rw [e] at this
      cases this
    | prv d fp =>
      obtain ⟨v, e1, t, nd, n⟩ := ok
      have := (hideB_none (n a (fpS_prv.mp h3)).2).1
      rw [e] at this
      cases this
theorem KdOk.unhide (x : KdOk K (hideB B F) σ sl S H v k) : KdOk K B σ sl S H v k := by
  cases k with
  | st d => exact x
  | ls d => exact x
  | raw u => exact x
  | nw u => exact x
  | ft u =>
    obtain ⟨G, t, nd, hG⟩ := x
    exact ⟨G, t, nd, fun l m => ⟨(hG l m).1, (hideB_none (hG l m).2.1).2, (hG l m).2.2⟩⟩
  | «at» m => exact x
  | fr o =>
    obtain ⟨l, e, n, n0, ow, na⟩ := x
    exact ⟨l, e, n, (hideB_none n0).2, ow, na⟩
/-! ## new objects, held by nobody yet -/
def New1 (K : PySem.W.Frag) (B : Bs) (S H : Hp) (σ : L2.St) (sl : List Sl) (a : Addr) (o : Ow) : Prop := S a = none ∧ B.H0 a = none ∧ OwOk K S H a o ∧ ¬ OwnAt σ sl a
/-- from one state to a later one, all that stood still stands -/
structure Gro (S H S' H' : Hp) : Prop where
  s : Same S S'
  h : Sam H H'
  n : ∀ a o, S' a = some o → S a = none → H a = none
theorem Gro.refl : Gro S H S H := ⟨.refl _, .refl _, fun a o h1 h2 => by rw [h1] at h2; cases h2⟩
theorem New1.gro {o : Ow} (x : New1 K B S H σ sl a o) (g : Gro S H S' H') : New1 K B S' H' σ sl a o := by
  obtain ⟨h1, h2, h3, h4⟩ := x
  obtain ⟨u, eu, nu⟩ := h3.soft
  refine ⟨?_, h2, h3.ext g.s ((g.h.st _ _ eu (Hard.nt nu)).trans eu.symm), h4⟩
  cases e : S' a with
  | none => rfl
  | some w => rw [g.n a w e h1] at eu; cases eu
theorem Paired.pick {α β : Type} {F : α → β → Prop} {l₁ : List α} {l₂ : List β} (h : Paired F l₁ l₂) : ∀ {i : Nat} {b : β}, l₂[i]? = some b → ∃ a, l₁[i]? = some a ∧ F a b := by
  induction h with
  | nil => intro i b e; simp at e
  | cons h t ih =>
    intro i b e
    cases i with
    | zero => simp at e; subst e; exact ⟨_, rfl, h⟩
    | succ i => simpa using ih (by simpa using e)
theorem Paired.pickL {α β : Type} {F : α → β → Prop} {l₁ : List α} {l₂ : List β} (h : Paired F l₁ l₂) : ∀ {i : Nat} {a : α}, l₁[i]? = some a → ∃ b, l₂[i]? = some b ∧ F a b := by
  induction h with
  | nil => intro i b e; simp at e
  | cons h t ih =>
    intro i b e
    cases i with
    | zero => simp at e; subst e; exact ⟨_, rfl, h⟩
    | succ i => simpa using ih (by simpa using e)
/-- L is a new list of the new objects -/
structure Nst (K : PySem.W.Frag) (B : Bs) (S H : Hp) (σ : L2.St) (sl : List Sl) (L : Addr) (as : List Addr) (os : List Ow) : Prop where
  nS : S L = none
  n0 : B.H0 L = none
  na : ¬ OwnAt σ sl L
  hd : H L = some (.lst (as.map V.ref))
  nL : L ∉ as
  nd : as.Nodup
  all : Paired (New1 K B S H σ sl) as os
end
/-- e gives a new list of new objects -/
def NV (c : CxD) (B : Bs) (e : Expr) (sl : List Sl) (p : Bool) (os : List Ow) (sl' : List Sl) : Prop :=
  ∃ t, (∀ X, InCx c X → PE X e t) ∧ ∀ S H σ, Stt c.K B S H σ sl → ∀ Q : VK, (∀ L as S' H', Stt c.K B S' H' σ sl' → Adv σ sl S H sl' S' H' p → Nst c.K B S' H' σ sl' L as os → Q (.ref L) H') → t σ H Q
section
variable {c : CxD} {B : Bs} {tg e a b elt iter : Expr} {ifs : List Expr} {ss rest ba : List Stmt} {sl sl1 sl2 sl3 : List Sl} {p q z t : Bool} {k k1 k2 : Kd} {pos p1 p2 p3 : Pos} {ds es : List PyData} {i j : Int} {scope : Scope} {own : List (Str × Nat)} {R : Rt}
/-- [f(x) for x in ..], each a new object -/
theorem nv_comp (own : List (Str × Nat)) (g : PyData → Ow) (hi : EI c B tg iter sl p ds z sl1)
    (hs : ∀ (i : Nat) (d : PyData), ds[i]? = some d → ∃ js s2, GT (c.blk scope) B tg d js (wipeS sl1 (own.map (·.2))) s2 ∧ (∀ x ∈ js, x ∈ own.map (·.2)) ∧ TVs (c.blk scope) B ifs s2 true ∧ EV (c.blk scope) B elt s2 true (.fr (g d)) s2)
    (hl : ds.length ≤ 1000000) (ok : blkC c.N c.sc scope own = true := by (try dsimp only [CxD.blk]); decide +kernel) (nd : c.N.Nodup := by assumption) (hf : ∀ env x, foldedSetIterable iter env x = pure x := by intro _ _; rfl) : NV c B (.ListComp elt [⟨tg, iter, ifs, 0⟩] scope pos) sl p (ds.map g) sl1 := by
  obtain ⟨wi, gi, si⟩ := hi
  have sk : scope.kind = .function := (blkOk_by ok).kind
  let c' := c.blk scope
  let g0 : TG := fun v σ H Q => ∃ g : TG, (∀ X, InCx c' X → PG X tg g) ∧ g v σ H Q
  let tt : TT := fun σ H Q => ∃ t, (∀ X, InCx c' X → PTs X ifs t) ∧ t σ H Q
  have gP : ∀ X, InCx c' X → PG X tg g0 := fun X hX => ⟨fun pins s σ H v u Q I r ⟨g, hg, h⟩ => (hg X hX).run pins s σ H v u Q I r h⟩
  have tP : ∀ X, InCx c' X → PTs X ifs tt := fun X hX => ⟨fun pins s σ H Q I ⟨t, ht, h⟩ => (ht X hX).run pins s σ H Q I h⟩
  refine ⟨_, fun X hX => pe_lc hX.calm (by rw [hX.hN]; exact nd) (gi X hX) (blk_in hX ok) (fun s H C cl fp => gP _ (hX.block sk)) (fun s H C cl fp => tP _ (hX.block sk)) (fun s H C cl fp => pe_rE (hX.block sk)) (hf _), fun S H σ I Q fn => si S H σ I _ fun It S1 H1 I1 a1 it => ?_⟩
  intro D nD
  obtain ⟨nS1, n01, naD⟩ := I1.notIn nD
  refine ⟨fun i m H => m = ds.length - i ∧ i ≤ ds.length ∧ ∃ S2 as, Same S1 S2 ∧ (∀ a o, S2 a = some o → S1 a = none → H1 a = none) ∧ Stt c.K B S2 H σ sl1 ∧ Sam H1 H ∧ S2 D = none ∧ H D = some (.lst (as.map V.ref)) ∧ D ∉ as ∧ as.Nodup ∧ Paired (New1 c.K B S2 H σ sl1) as ((ds.take i).map g),
    ⟨ds.length, by simp, Nat.zero_le _, S1, [], .refl _, fun a o h1 h2 => (by rw [h1] at h2; cases h2), I1.laid nD, same_sam (same_new nD), nS1, upd_same, by simp, .nil, .nil⟩, ?_⟩
  rintro i m H2 ⟨rfl, hil, S2, as, s2, n2, I2, h2, nS2, hD, nDas, ndas, tacc⟩
  obtain ⟨it1, it2⟩ := it S2 H2 s2 I2.sh (by
    cases z with
    | true => rw [if_pos rfl]; exact same_sam (s2.trans I2.sh)
    | false => rw [if_neg Bool.false_ne_true]; exact h2) i
  by_cases hlt : i < ds.length
  · have hget := List.getElem?_eq_getElem hlt
    obtain ⟨go, yl⟩ := it1 _ hget
    refine .inr ⟨go, fun H' => ∃ S2 as, Same S1 S2 ∧ (∀ a o, S2 a = some o → S1 a = none → H1 a = none) ∧ Stt c.K B S2 H' σ sl1 ∧ Sam H1 H' ∧ S2 D = none ∧ H' D = some (.lst (as.map V.ref)) ∧ D ∉ as ∧ as.Nodup ∧ Paired (New1 c.K B S2 H' σ sl1) as ((ds.take (i + 1)).map g),
      fun H' h => ⟨ds.length - (i + 1), by omega, rfl, hlt, h⟩, fun x H3 y => ?_⟩
    obtain ⟨S3, b1, b2, b3, b4, bn, tx⟩ := yl x H3 y
    have I3 := I2.grow b1 b3 b2 b4 (bn I2.snt)
    obtain ⟨js, s4, ⟨g1, gp0, gs0⟩, hj, ⟨t0, tp0, ts0⟩, ev⟩ := hs i _ hget
    refine ⟨g1, gp0, gs0 S3 H3 _ x (I3.wipe _) tx _ fun σ' I' l' k' => ⟨wipe_same hj l' k', t0, tp0, ?_⟩⟩
    refine ts0 S3 H3 σ' I' _ fun S4 H4 I4 a4 => ?_
    rw [if_pos rfl]
    refine ev.rr S4 H4 σ' I4 _ fun y S5 H5 I5 a5 x5 f5 => ?_
    obtain ⟨l, rfl, nl5, nl0, ow5, na5⟩ := x5
    have nl4 : H4 l = none := f5 l rfl
    have a45 := a4.trans a5
    -- from S2 H2 to S5 H5
    have g35 : Gro S3 H3 S5 H5 := ⟨a45.s, a45.h rfl, a45.n⟩
    have g25 : Gro S2 H2 S5 H5 := ⟨b1.trans a45.s, (same_sam b3).trans (a45.h rfl), fun a o e1 e2 => by
      cases e3 : S3 a with
      | none => exact (same_sam b3).free (a45.n a o e1 e3)
      | some o3 => exact b4 a o3 e3 e2⟩
    have J : Stt c.K B S5 H5 σ sl1 := I3.growS a45.s (a45.h rfl) I5.sh a45.n I5.tabs I5.snt
    have hD5 : H5 D = some (.lst (as.map V.ref)) := g25.h.st _ _ hD (fun ps z => nomatch z)
    have nD5 : S5 D = none := by
      cases e : S5 D with
      | none => rfl
      | some o => have := g25.n D o e nS2; rw [hD] at this; cases this
    have H24 : Sam H2 H4 := (same_sam b3).trans (a4.h rfl)
    have lD : l ≠ D := fun e => by rw [e] at nl4; rw [H24.st _ _ hD (fun ps z => nomatch z)] at nl4; cases nl4
    have las : l ∉ as := fun hm => by
      obtain ⟨i', hi', e'⟩ := List.getElem_of_mem hm
      obtain ⟨o', _, _, _, ow', _⟩ := Paired.pickL tacc (List.getElem?_eq_getElem hi')
      obtain ⟨u, eu, nu⟩ := ow'.soft
      rw [e'] at eu
      rw [H24.st _ _ eu (Hard.nt nu)] at nl4
      cases nl4
    have naS : ¬ OwnAt σ sl1 l := fun h => by
      obtain ⟨_, u, eu, nu⟩ := I3.ownAt h
      rw [(a4.h rfl).st _ _ eu (Hard.nt nu)] at nl4
      cases nl4
    have nw5 : ∀ a o, S5 a = some o → S1 a = none → H1 a = none := fun a o e1 e2 => by
      cases e3 : S2 a with
      | none => exact h2.free (g25.n a o e1 e3)
      | some o3 => exact n2 a o3 e3 e2
    have cat : (ds.take (i + 1)).map g = (ds.take i).map g ++ [g ds[i]] := by
      rw [List.take_succ, hget, List.map_append]
      rfl
    refine ⟨as.map V.ref, hD5, ?_, S5, as ++ [l], s2.trans g25.s, nw5, J.side nD5 n01 naD hD5 lst_soft, ⟨fun a o e hnt => ?_, fun a ps e => ?_⟩, nD5, ?_, ?_, ?_, ?_⟩
    · have e1 := tacc.length
      rw [List.length_map, List.length_take] at e1
      rw [List.length_map, e1, sizeLine_eq]
      omega
    · rw [upd_ne (ne_of_none e nD)]
      exact g25.h.st _ _ (h2.st _ _ e hnt) hnt
    · rw [upd_ne (ne_of_none e nD)]
      exact (h2.trans g25.h).tb _ _ e
    · rw [upd_same, List.map_append]; rfl
    · intro hm
      rcases List.mem_append.mp hm with hm | hm
      · exact nDas hm
      · exact lD (List.mem_singleton.mp hm).symm
    · rw [List.nodup_append]
      exact ⟨ndas, by simp, fun a ha b hb e => by rw [List.mem_singleton] at hb; subst hb; subst e; exact las ha⟩
    · rw [cat]
      have up : ∀ a o, a ≠ D → New1 c.K B S5 H5 σ sl1 a o → New1 c.K B S5 (upd H5 D (.lst (as.map V.ref ++ [V.ref l]))) σ sl1 a o := fun a o hne ⟨q1, q2, q3, q4⟩ => ⟨q1, q2, q3.ext (.refl _) (upd_ne hne), q4⟩
      refine Paired.snoc ?_ (up l _ lD ⟨nl5, nl0, ow5, naS⟩)
      have t5 := Paired.mapP tacc fun a o x => x.gro g25
      have go : ∀ {as : List Addr} {os : List Ow}, Paired (New1 c.K B S5 H5 σ sl1) as os → D ∉ as → Paired (New1 c.K B S5 (upd H5 D (.lst (as.map V.ref ++ [V.ref l]))) σ sl1) as os → True := fun _ _ _ => trivial
      have go : ∀ {as' : List Addr} {os : List Ow}, Paired (New1 c.K B S5 H5 σ sl1) as' os → D ∉ as' → Paired (New1 c.K B S5 (upd H5 D (.lst (as.map V.ref ++ [V.ref l]))) σ sl1) as' os := fun {as' os} h => by
        induction h with
        | nil => intro _; exact .nil
        | cons h t ih =>
          intro hm
          exact .cons (up _ _ (fun e => hm (by rw [e]; exact List.mem_cons_self)) h) (ih fun z => hm (List.mem_cons_of_mem _ z))
      exact go t5 nDas
  · have e1 : i = ds.length := by omega
    subst e1
    refine .inl ⟨it2 (Nat.le_refl _), ?_⟩
    rw [List.take_length] at tacc
    refine fn D as S2 H2 I2 (a1.trans (q := true) ⟨s2, n2, fun a o e => h2.dom e, fun a o e hnt _ => h2.st _ _ e hnt, fun _ => h2, fun _ h => h⟩ |>.weak fun h => by rw [h]; rfl) ⟨nS2, n01, naD, hD, nDas, ndas, tacc⟩
/-- for x in a new list of new objects: each is x's own in its turn -/
theorem g1_forN (j : Nat) {x : Str} {os : List Ow} (he : NV c B e sl p os sl1) (J : Nat → List Sl → Prop) (h0 : J 0 sl1) (hs : ∀ B' : Bs, ∀ i o s, os[i]? = some o → J i s → (s[j]?).isSome = true ∧ GO c B' ba (s.set j (.own o)) ⟨J (i + 1), R.rt, R.nx, J (i + 1), R.ex⟩) (hd : ∀ s, J os.length s → R.nx s)
    (hN : c.N[j]? = some x := by rfl) (nd : c.N.Nodup := by assumption) (hx : c.sc.names.lookup x = some .local ∨ c.sc.names.lookup x = some .cell := by first | exact .inl rfl | exact .inr rfl) (hf : ∀ env x, foldedSetIterable e env x = pure x := by intro _ _; rfl) : G1 c B (.For (.Name x p1) e ba [] pos) sl R := by
  obtain ⟨te, ge, se⟩ := he
  refine ⟨tFor (iList c.K te) (gName j) (rB c ba), fun X hX => ps_for hX.po hX.calm (by have := pi_list (tg := .Name x p1) (ge X hX); rw [hX.hK] at this; exact this) (pg_name (by rw [hX.hN]; exact nd) (by rw [hX.hN]; exact hN) (hX.loc hx).1 (hX.loc hx).2) (ps_rB hX) (hf _), fun S H σ I D q => se S H σ I _ fun L as S1 H1 I1 a1 N1 => ?_⟩
  refine ⟨L, rfl, ⟨_, .inl (.inl N1.hd)⟩, ?_⟩
  have hlen := N1.all.length
  refine ⟨fun i m σ H => m = os.length - i ∧ i ≤ os.length ∧ ∃ S2 s2, Same S1 S2 ∧ Stt c.K B S2 H σ s2 ∧ J i s2 ∧ S2 L = none ∧ ¬ OwnAt σ s2 L ∧ H L = some (.lst (as.map V.ref)) ∧ ∀ m a o, i ≤ m → as[m]? = some a → os[m]? = some o → New1 c.K B S2 H σ s2 a o,
    ⟨os.length, by simp, Nat.zero_le _, S1, sl1, .refl _, I1, h0, N1.nS, N1.na, N1.hd, fun m a o _ e1 e2 => ?_⟩, ?_⟩
  · obtain ⟨a', e3, h⟩ := Paired.pick N1.all e2
    rw [e1] at e3
    cases e3
    exact h
  rintro i m σ2 H2 ⟨rfl, hil, S2, s2, a2, I2, j2, nS2, naL, hL, al⟩
  by_cases hlt : i < os.length
  · have hget := List.getElem?_eq_getElem hlt
    obtain ⟨ai, hai, _⟩ := Paired.pick N1.all hget
    refine .inr ⟨⟨_, .ref ai, .inl (.inl hL), by rw [List.getElem?_map, hai]; rfl⟩, fun σ' H' => ∃ S3 s3, Same S1 S3 ∧ Stt c.K B S3 H' σ' s3 ∧ J (i + 1) s3 ∧ S3 L = none ∧ ¬ OwnAt σ' s3 L ∧ H' L = some (.lst (as.map V.ref)) ∧ ∀ m a o, i + 1 ≤ m → as[m]? = some a → os[m]? = some o → New1 c.K B S3 H' σ' s3 a o, fun σ' H' h => ⟨os.length - (i + 1), by omega, rfl, hlt, h⟩, fun x H3 y => ?_⟩
    obtain ⟨rfl, y⟩ := y
    have e4 := y _ (.inl (.inl hL))
    rw [List.getElem?_map, hai] at e4
    cases e4
    obtain ⟨nSa, n0a, owa, naa⟩ := al i ai _ (Nat.le_refl _) hai hget
    -- what is hidden
    classical
    let F : Hp := fun a => if a = L ∨ ∃ m, i + 1 ≤ m ∧ m < os.length ∧ as[m]? = some a then H3 a else none
    have hF : ∀ a o, F a = some o → H3 a = some o ∧ S2 a = none ∧ B.H0 a = none ∧ ¬ OwnAt σ2 s2 a ∧ a ≠ ai ∧ ¬ Hard o := fun a o e => by
      have e' : (if a = L ∨ ∃ m, i + 1 ≤ m ∧ m < os.length ∧ as[m]? = some a then H3 a else none) = some o := e
      split at e'
      · rename_i hc
        rcases hc with rfl | ⟨m, hm, hm2, ha⟩
        · exact ⟨e', nS2, N1.n0, naL, fun z => N1.nL (by rw [z]; exact List.mem_of_getElem? hai), by rw [hL] at e'; cases e'; exact lst_soft⟩
        · obtain ⟨q1, q2, q3, q4⟩ := al m a _ (by omega) ha (List.getElem?_eq_getElem hm2)
          refine ⟨e', q1, q2, q4, fun z => ?_, by obtain ⟨u, eu, nu⟩ := q3.soft; rw [eu] at e'; cases e'; exact nu⟩
          subst z
          have l1 := (List.getElem?_eq_some_iff.mp ha).1
          have l2 := (List.getElem?_eq_some_iff.mp hai).1
          have := (List.getElem_inj (h₀ := l1) (h₁ := l2) N1.nd).mp (by rw [(List.getElem?_eq_some_iff.mp ha).2, (List.getElem?_eq_some_iff.mp hai).2])
          omega
      · cases e'
    obtain ⟨hsome, go4⟩ := hs (hideB B F) i _ s2 hget j2
    have I4 : Stt c.K B S2 H3 (σ2.set j (some (.ref ai))) (s2.set j (.own os[i])) := I2.put (.own os[i]) ⟨ai, rfl, nSa, owa, n0a⟩ (fun a m => by have e := fpS_own.mp m; cases e; exact naa) hsome
    have own4 : ∀ a, a ≠ ai → OwnAt (σ2.set j (some (.ref ai))) (s2.set j (.own os[i])) a → OwnAt σ2 s2 a := fun a hne h => by
      rcases ownAt_set h with h | h
      · exact h
      · have e := fpS_own.mp h
        cases e
        exact absurd rfl hne
    have I5 := I4.hide (F := F) fun a o e => by
      obtain ⟨q1, q2, q3, q4, q5, q6⟩ := hF a o e
      exact ⟨q1, q2, q3, fun z => q4 (own4 a q5 z), q6⟩
    have hF2 : ∀ a o, F a = some o → B.H0 a = none ∧ B.S0 a = none ∧ ¬ Hard o := fun a o e => ⟨(hF a o e).2.2.1, I2.s0.free (hF a o e).2.1, (hF a o e).2.2.2.2.2⟩
    have back : ∀ {S' H' : Hp} {σ' : L2.St} {s' : List Sl}, Same S2 S' → Stt c.K (hideB B F) S' H' σ' s' → J (i + 1) s' → ∃ S3 s3, Same S1 S3 ∧ Stt c.K B S3 H' σ' s3 ∧ J (i + 1) s3 ∧ S3 L = none ∧ ¬ OwnAt σ' s3 L ∧ H' L = some (.lst (as.map V.ref)) ∧ ∀ m a o, i + 1 ≤ m → as[m]? = some a → os[m]? = some o → New1 c.K B S3 H' σ' s3 a o := fun {S' H' σ' s'} sS I6 j6 => by
      obtain ⟨I7, al7⟩ := I6.unhide hF2 I2.lsd
      have fL : F L = some (.lst (as.map V.ref)) := by show (if _ then _ else _) = _; rw [if_pos (.inl rfl)]; exact hL
      obtain ⟨q1, q2, q3⟩ := al7 L _ fL
      refine ⟨S', s', a2.trans sS, I7, j6, q2, q3, q1, fun m a o hm ha ho => ?_⟩
      obtain ⟨r1, r2, r3, r4⟩ := al m a o (by omega) ha ho
      obtain ⟨u, eu⟩ := r3.some
      have fa : F a = some u := by
        show (if _ then _ else _) = _
        rw [if_pos (.inr ⟨m, hm, (List.getElem?_eq_some_iff.mp ho).1, ha⟩)]
        exact eu
      obtain ⟨w1, w2, w3⟩ := al7 a u fa
      exact ⟨w2, r2, r3.ext sS (w1.trans eu.symm), w3⟩
    have hl := I2.lsd
    exact go4.rr S2 H3 _ I5 _ ⟨fun S5 H5 σ5 s5 c1 I6 j5 => back c1 I6 j5, fun S5 H5 σ5 s5 v k c1 I6 x5 h5 => q.rt S5 H5 σ5 s5 v k ((a1.s.trans a2).trans c1) (I6.unhide hF2 hl).1 x5.unhide h5,
      fun S5 H5 σ5 s5 c1 I6 h5 => q.nx S5 H5 σ5 s5 ((a1.s.trans a2).trans c1) (I6.unhide hF2 hl).1 h5, fun S5 H5 σ5 s5 c1 I6 j5 => back c1 I6 j5,
      fun S5 H5 σ5 s5 cls dx x c1 I6 z h5 => q.ex S5 H5 σ5 s5 cls dx x ((a1.s.trans a2).trans c1) (I6.unhide hF2 hl).1 z h5⟩
  · have e1 : i = os.length := by omega
    subst e1
    exact .inl ⟨⟨_, .inl (.inl hL), by rw [List.length_map]; omega⟩, q.nx S2 H2 σ2 s2 (a1.s.trans a2) I2 (hd s2 j2)⟩
end
end Mw

/-! MwO: keyword arguments behind positional ones; keyword-only parameters with defaults. -/
namespace Mw
open PySem PySem.Spec L2
variable [Tb]
section
variable {c : CxD} {B : Bs} {e a b : Expr} {es : List Expr} {sl sl1 sl2 : List Sl} {p q : Bool} {k : Kd} {ks ks' : List Kd} {pos p1 : Pos} {α : Type} {pre : α → Prop} {args : α → List Sl} {res : α → Kd} {x : Str} {st : Stmt} {ps nms : List Str} {lv n : Nat} {kws : List Keyword} {ix : List Nat} {P : Program} {w : World} {K : PySem.W.Frag} {mg : Str → Option Value} {base : Heap}
theorem ev_callPKP (v : α) (F : DefOk P w K mg base x st ps lv (Prm K mg (Pure pre args res))) (kb : KwOk x st ps nms n ix) (ha : AV c B (e :: es) sl p ks sl1) (hkv : KV c B kws sl1 q ks' sl2) (hcs : ArgP (pick (ks ++ ks') ix) (args v)) (hp : pre v) (hk : okK (res v) = true := by rfl) (hc : DefK P w K mg base x st ps lv (Prm K mg (Pure pre args res)) → c.DefK x st ps lv (Prm c.K c.mg (Pure pre args res)) := by exact fun h => h) (hlv : lv ≤ c.lv := by exact Nat.le_of_ble_eq_true rfl) (hg : c.sc.names.lookup x = some .globalImplicit := by rfl)
    (hla : ks.length = (e :: es).length := by rfl) (hn : (e :: es).length = n := by rfl) (hlk : ks'.length = kws.length := by rfl) (hln : kws.length = nms.length := by rfl) (hfm : (q || ks.all Kd.firm) = true := by rfl) (hall : ∀ env, (backToKw pos (keywordEach kws env)).all (·.1.isSome) = true := by intro _; rfl) (hks : ∀ env, (backToKw pos (keywordEach kws env)).filterMap (·.1) = nms := by intro _; rfl)
    (hdb : (x == ("__debug__" : Str)) = false := by decide) (he : ∀ env, starEach (e :: es) env = (false, eval e env) :: starEach es env := by intro env; rfl) (hpl : ∀ env, ((backTo pos (starEach (e :: es) env)).any (·.1) || (backToKw pos (keywordEach kws env)).any (·.1.isNone)) = false := by intro _; rfl) : EV c B (.Call (.Name x p1) (e :: es) kws pos) sl (p && q) (res v) sl2 :=
  ev_callPK (hc F.toK) kb ha hkv hcs ⟨v, hp, rfl, rfl, rfl⟩ (okK_h hk) hlv hg hla hn hlk hln hfm hall hks hdb he hpl
/-- defs with defaults -/
theorem ev_callPKPD {dvs : List V} (v : α) (F : DefD P w K mg base x st ps lv (Prm K mg (Pure pre args res)) dvs) (kb : KwOk x st ps nms n ix) (ha : AV c B (e :: es) sl p ks sl1) (hkv : KV c B kws sl1 q ks' sl2) (hcs : ArgP (pick (ks ++ ks') ix) (args v)) (hp : pre v) (hk : okK (res v) = true := by rfl) (hc : DefK P w K mg base x st ps lv (Prm K mg (Pure pre args res)) → c.DefK x st ps lv (Prm c.K c.mg (Pure pre args res)) := by exact fun h => h) (hlv : lv ≤ c.lv := by exact Nat.le_of_ble_eq_true rfl) (hg : c.sc.names.lookup x = some .globalImplicit := by rfl)
    (hla : ks.length = (e :: es).length := by rfl) (hn : (e :: es).length = n := by rfl) (hlk : ks'.length = kws.length := by rfl) (hln : kws.length = nms.length := by rfl) (hfm : (q || ks.all Kd.firm) = true := by rfl) (hall : ∀ env, (backToKw pos (keywordEach kws env)).all (·.1.isSome) = true := by intro _; rfl) (hks : ∀ env, (backToKw pos (keywordEach kws env)).filterMap (·.1) = nms := by intro _; rfl)
    (hdb : (x == ("__debug__" : Str)) = false := by decide) (he : ∀ env, starEach (e :: es) env = (false, eval e env) :: starEach es env := by intro env; rfl) (hpl : ∀ env, ((backTo pos (starEach (e :: es) env)).any (·.1) || (backToKw pos (keywordEach kws env)).any (·.1.isNone)) = false := by intro _; rfl) : EV c B (.Call (.Name x p1) (e :: es) kws pos) sl (p && q) (res v) sl2 :=
  ev_callPK (hc F.toK) kb ha hkv hcs ⟨v, hp, rfl, rfl, rfl⟩ (okK_h hk) hlv hg hla hn hlk hln hfm hall hks hdb he hpl
theorem ev_callPkD {dvs : List V} (v : α) (F : DefD P w K mg base x st ps lv (Prm K mg (Pure pre args res)) dvs) (kb : KwOk x st ps nms 0 ix) (ha : KV c B kws sl p ks sl1) (hcs : ArgP (pick ks ix) (args v)) (hp : pre v) (hk : okK (res v) = true := by rfl) (hc : DefK P w K mg base x st ps lv (Prm K mg (Pure pre args res)) → c.DefK x st ps lv (Prm c.K c.mg (Pure pre args res)) := by exact fun h => h) (hlv : lv ≤ c.lv := by exact Nat.le_of_ble_eq_true rfl) (hg : c.sc.names.lookup x = some .globalImplicit := by rfl)
    (hlk : ks.length = kws.length := by rfl) (hln : kws.length = nms.length := by rfl) (hall : ∀ env, (backToKw pos (keywordEach kws env)).all (·.1.isSome) = true := by intro _; rfl) (hks : ∀ env, (backToKw pos (keywordEach kws env)).filterMap (·.1) = nms := by intro _; rfl)
    (hdb : (x == ("__debug__" : Str)) = false := by decide) (hpl : ∀ env, ((backTo pos (starEach [] env)).any (·.1) || (backToKw pos (keywordEach kws env)).any (·.1.isNone)) = false := by intro _; rfl) : EV c B (.Call (.Name x p1) [] kws pos) sl p (res v) sl1 :=
  ev_callK (hc F.toK) kb ha hcs ⟨v, hp, rfl, rfl, rfl⟩ (okK_h hk) hlv hg hlk hln hall hks hdb hpl
/-- defaults that are plain -/
inductive DfK : List V → List Kd → Prop
  | nil : DfK [] []
  | int {i : Int} {vs : List V} {ks : List Kd} (t : DfK vs ks) : DfK (.int i :: vs) (.st (.int i) :: ks)
  | non {vs : List V} {ks : List Kd} (t : DfK vs ks) : DfK (.non :: vs) (.st .none :: ks)
  | bl {i : Bool} {vs : List V} {ks : List Kd} (t : DfK vs ks) : DfK (.bl i :: vs) (.st (.bool i) :: ks)
theorem DfK.ok {S H : Hp} {σ : L2.St} : ∀ {vs : List V} {ks : List Kd}, DfK vs ks → KdsOk K B σ sl S H vs ks
  | _, _, .nil => .nil
  | _, _, .int t => .cons (.int _) t.ok
  | _, _, .non t => .cons .non t.ok
  | _, _, .bl t => .cons (.bl _) t.ok
theorem ev_callPD {dvs : List V} (v : α) (F : DefD P w K mg base x st ps lv (Prm K mg (Pure pre args res)) dvs) (ha : AV c B (e :: es) sl p ks sl1) (hdk : DfK dvs ks') (hcs : ArgP (ks ++ ks') (args v)) (hp : pre v) (hk : okK (res v) = true := by rfl) (hc : DefD P w K mg base x st ps lv (Prm K mg (Pure pre args res)) dvs → DefD c.P c.w c.K c.mg c.base x st ps lv (Prm c.K c.mg (Pure pre args res)) dvs := by exact fun h => h) (hlv : lv ≤ c.lv := by exact Nat.le_of_ble_eq_true rfl) (hg : c.sc.names.lookup x = some .globalImplicit := by rfl)
    (hdb : (x == ("__debug__" : Str)) = false := by decide) (he : ∀ env, starEach (e :: es) env = (false, eval e env) :: starEach es env := by intro env; rfl) (hpl : ∀ env, (backTo pos (starEach es env)).any (·.1) = false := by intro env; rfl) : EV c B (.Call (.Name x p1) (e :: es) [] pos) sl p (res v) sl1 := by
  obtain ⟨f, fd, hm, hF, ⟨ds, hds, hb⟩, G⟩ := (hc F).ex
  obtain ⟨t, ht, hs⟩ := ha
  refine ⟨fun σ H Q => t σ H fun vs H1 => Prm c.K c.mg (Pure pre args res) (vs ++ dvs) H1 Q fun cls d H' => c.W cls d σ H', fun X hX => pe_callGD (by rw [hX.hP, hX.hw, hX.hK, hX.hm, hX.hb]; exact G) (hX.rm.mono hlv) hX.gu hX.tk (hX.g x hg) (by rw [hX.hm]; exact hm) (by rw [hX.hK]; exact hF.kp) (by rw [hX.hK]; exact hb) hds (ht X hX) hdb (he _) (hpl _), fun S H σ I Q fn => ?_⟩
  refine hs S H σ I _ fun vs S1 H1 I1 a1 x1 => ⟨S1, [], args v, .ret (res v), args v, ⟨v, hp, rfl, rfl, rfl⟩, hcs.stt I1 (x1.app hdk.ok), fun u S' H' J hv => ?_⟩
  obtain ⟨I2, a2⟩ := back0 I1 J
  obtain ⟨kd, fr⟩ := kd_back I1 (okK_h hk) (fun _ h => h) hv
  exact fn u S' H' I2 ((a1.trans a2).weak fun h => by rw [h]; rfl) kd (fr.back a1)
end
/-- keyword-only parameters with defaults: how a positional call binds -/
theorem binds_kwd {K : PySem.W.Frag} {x : Str} {st : Stmt} {f D : Addr} {od : Option Addr} {oc doc pm cdv ct : Value} {an : Option Addr} {osl : Array (Option Value)} {ps : List Str} (n : Nat) (kws : List (Str × V)) (lk : K.lookup f = some ⟨oc, od, .func (PySem.W.fnOf x x (defArgs st) (defBody st) (defScope st) .none (.ref D) doc pm an cdv ct), osl⟩)
    (hcd : PySem.W.codeIn K cdv x = true) (hkp : PySem.W.keepIn K (.ref f) = true) (hq : ∀ q ∈ kws, ∃ u, PySem.W.nsIn K D q.1 = some (some u) ∧ RelV q.2 u) (hk : kws ≠ []) (hn : n + kws.length = ps.length)
    (h : ∀ (D : Addr) (doc pm : Value) (an : Option Addr) (cdv ct : Value) (us ks : List Value), us.length = n → ks.length = kws.length →
      KwChain D ((kws.map (·.1)).zip ks) (bindArgs (PySem.W.fnOf x x (defArgs st) (defBody st) (defScope st) .none (.ref D) doc pm an cdv ct) ⟨us, []⟩) (ps.zip (us ++ ks))) : ∃ ds, Vals (kws.map (·.2)) ds ∧ Binds K (PySem.W.fnOf x x (defArgs st) (defBody st) (defScope st) .none (.ref D) doc pm an cdv ct) ps ds := by
  have F : FunD K x x (defArgs st) (defBody st) (defScope st) [] kws f (PySem.W.fnOf x x (defArgs st) (defBody st) (defScope st) .none (.ref D) doc pm an cdv ct) :=
    ⟨⟨oc, od, .none, .ref D, doc, pm, an, cdv, ct, osl, rfl, lk, hcd, .inl ⟨rfl, rfl⟩, .inr ⟨D, rfl, hq⟩⟩, hkp⟩
  exact F.binds0 n hk hn h
end Mw

/-! MwP: more operators: a list from behind, truth values compared. -/
namespace Mw
open PySem PySem.Spec L2
variable [Tb]
section
variable {c : CxD} {B : Bs} {e a b : Expr} {sl sl1 sl2 : List Sl} {p q : Bool} {k1 : Kd} {pos p1 p2 p3 : Pos} {ds : List PyData} {xs : List Int}
theorem ev_rev {n : Nat} (ha : EV c B e sl p k1 sl1) (hl : LsK k1 ds := by first | exact .st | exact .ls | exact .fr) : EV c B (.Subscript e (.Slice none none (some (.UnaryOp .USub (.Constant (.int 1) n p1) p2)) p3) pos) sl p (.fr (.lst ds.reverse)) sl1 := by
  obtain ⟨te, ge, se⟩ := ha
  refine ⟨tRevL c.K te, fun X hX => by have := pe_revL (k := n) (p1 := p1) (p2 := p2) (p3 := p3) (pos := pos) (ge X hX); rw [hX.hK] at this; exact this, fun S H σ I Q fn => ?_⟩
  refine se S H σ I _ fun v S1 H1 I1 a1 x1 f1 => ?_
  obtain ⟨l, vs, rfl, hq, t⟩ := hl.rd I1 x1
  refine ⟨l, vs, rfl, hq, fun m hm => (Mw.fin fn a1 fun h => h).fresh I1 hm ?_⟩
  have go : ∀ {vs : List V} {ds : List PyData}, Trs c.K S1 vs ds → Trs c.K S1 vs.reverse ds.reverse := fun {vs ds} h => by
    induction ds generalizing vs with
    | nil => cases h; exact .nil
    | cons d r ih =>
      cases h with
      | cons h t => rw [List.reverse_cons, List.reverse_cons]; exact (ih t).app (.one h)
  exact go t
theorem ev_revN {n : Nat} (ha : EV c B e sl p k1 sl1) (hl : LsK k1 (nums xs) := by first | exact .st | exact .ls | exact .fr) : EV c B (.Subscript e (.Slice none none (some (.UnaryOp .USub (.Constant (.int 1) n p1) p2)) p3) pos) sl p (.fr (.lst (nums xs.reverse))) sl1 :=
  (ev_rev ha hl).to (by unfold nums; rw [List.map_reverse])
theorem cm_eqB {t u : Bool} (ha : EV c B a sl p (.st (.bool t)) sl1) (hb : EV c B b sl1 q (.st (.bool u)) sl2) : CM c B .Eq a b sl (p && q) (decide (t = u)) sl2 :=
  cm_of (r := rEq) (fun _ _ => op_eq) (nobehind _ (by decide) (by decide)) (fun B σ sl S H x y I hx hy Q q => by
    cases tr_bl hx
    cases tr_bl hy
    refine ⟨rfl, q.st I ?_⟩
    have e : decide (V.bl t = V.bl u) = decide (t = u) := by
      by_cases h : t = u
      · rw [h]; simp
      · rw [decide_eq_false h, decide_eq_false fun z => h (V.bl.inj z)]
    rw [e]
    exact .bl _) ha hb (by simp [Kd.firm])
theorem cm_neB {t u : Bool} (ha : EV c B a sl p (.st (.bool t)) sl1) (hb : EV c B b sl1 q (.st (.bool u)) sl2) : CM c B .NotEq a b sl (p && q) (!decide (t = u)) sl2 :=
  cm_of (r := rNe) (fun _ _ => op_ne) (nobehind _ (by decide) (by decide)) (fun B σ sl S H x y I hx hy Q q => by
    cases tr_bl hx
    cases tr_bl hy
    refine ⟨rfl, q.st I ?_⟩
    have e : decide (V.bl t = V.bl u) = decide (t = u) := by
      by_cases h : t = u
      · rw [h]; simp
      · rw [decide_eq_false h, decide_eq_false fun z => h (V.bl.inj z)]
    rw [e]
    exact .bl _) ha hb (by simp [Kd.firm])
end
/-- name = [..], the name a cell -/
theorem sw_cell {c : CxD} {elt : Expr} {gs : List Comprehension} {scope : Scope} {pos py : Pos} {y : Str} {l : Nat} (hy : c.sc.names.lookup y = some .cell) : ∀ X, InCx c X → swapsWith (.ListComp elt gs scope pos) (some (.Name y py)) l X.env = pure false := fun X hX => by
  have ky : X.env.kindOf y = some .cell := (hX.fn y hy).1
  unfold swapsWith
  simp only [ky]
  show pure (_ && false && _ && _) = _
  rw [Bool.and_false]
  rfl
/-! ## trees that may be compared -/
structure Ce (b : Nat) (d : PyData) : Prop where
  lay : d.canLay0 = true
  nd : d.hasDict = false
  dp : d.depth ≤ b
theorem Ce.mono {b b' : Nat} {d : PyData} (h : Ce b d) (hb : b ≤ b') : Ce b' d := ⟨h.lay, h.nd, Nat.le_trans h.dp hb⟩
theorem Ce.none : Ce 0 .none := ⟨rfl, rfl, Nat.le_refl _⟩
theorem Ce.bool {t : Bool} : Ce 0 (.bool t) := ⟨rfl, rfl, Nat.le_refl _⟩
theorem Ce.int {i : Int} : Ce 0 (.int i) := ⟨rfl, rfl, Nat.le_refl _⟩
theorem ce_all {b : Nat} : ∀ {ds : List PyData}, (∀ d ∈ ds, Ce b d) → PyData.canLayAll0 ds = true ∧ PyData.hasDictAll ds = false ∧ PyData.depthAll ds ≤ b
  | [], _ => ⟨rfl, rfl, Nat.zero_le _⟩
  | d :: r, h => by
    have h1 := h d List.mem_cons_self
    obtain ⟨a1, a2, a3⟩ := ce_all (ds := r) fun x hx => h x (List.mem_cons_of_mem _ hx)
    refine ⟨?_, ?_, ?_⟩
    · show (PyData.canLay0 d && PyData.canLayAll0 r) = true; rw [h1.lay, a1]; rfl
    · show (PyData.hasDict d || PyData.hasDictAll r) = false; rw [h1.nd, a2]; rfl
    · show max (PyData.depth d) (PyData.depthAll r) ≤ b; exact Nat.max_le.mpr ⟨h1.dp, a3⟩
theorem Ce.list {b : Nat} {ds : List PyData} (h : ∀ d ∈ ds, Ce b d) : Ce (b + 1) (.list ds) := by
  obtain ⟨a1, a2, a3⟩ := ce_all h
  exact ⟨a1, a2, by show PyData.depthAll ds + 1 ≤ b + 1; omega⟩
theorem Ce.tuple {b : Nat} {ds : List PyData} (h : ∀ d ∈ ds, Ce b d) : Ce (b + 1) (.tuple ds) := by
  obtain ⟨a1, a2, a3⟩ := ce_all h
  exact ⟨a1, a2, by show PyData.depthAll ds + 1 ≤ b + 1; omega⟩
theorem Ce.can {b : Nat} {d : PyData} (h : Ce b d) (hb : b ≤ 64 := by decide) : canEq d := ⟨Bool.and_eq_true_iff.mpr ⟨h.lay, decide_eq_true (Nat.le_trans h.dp hb)⟩, h.nd⟩
theorem Ce.self {b : Nat} {d : PyData} (h : Ce b d) : PyData.eqv d d = true := SeqAt.eqv_refl d h.lay
theorem Ce.nums (xs : List Int) : Ce 1 (.list (Mw.nums xs)) := Ce.list fun d hd => by
  obtain ⟨x, _, rfl⟩ := nums_mem hd
  exact Ce.int
end Mw

/-! MwQ: list(enumerate(xs)). -/
namespace Mw
open PySem PySem.Spec L2
/-- an enumerate object, whatever became of the tuple that it gave last -/
def EnK (h : Heap) (e it : Addr) (i : Int) : Prop := ∃ (f0 old : Value) (f1 : Bool), h.get? e = some { cls := .type "enumerate", dict := none, data := .fields #[f0, .bool f1, .ref it, rawInt i, .none, old], slots := #[] } ∧ (f0 = .none ∧ f1 = false ∨ ∃ T o, f0 = rawInt (T : Nat) ∧ h.get? T = some o)
theorem EnK.ty {s : Shared} {e it : Addr} {i : Int} (h : EnK s.heap e it i) : s.TypeIs (.ref e) "enumerate" := by
  obtain ⟨f0, old, f1, he, _⟩ := h
  exact ⟨_, he, rfl⟩
theorem EnK.keep {h h' : Heap} {e it : Addr} {i : Int} (x : EnK h e it i) (k : ∀ b o, h.get? b = some o → ∃ o', h'.get? b = some o') (ke : h'.get? e = h.get? e) : EnK h' e it i := by
  obtain ⟨f0, old, f1, he, hf⟩ := x
  refine ⟨f0, old, f1, ke.trans he, ?_⟩
  rcases hf with h | ⟨T, o, h1, h2⟩
  · exact .inl h
  · obtain ⟨o', h3⟩ := k T o h2
    exact .inr ⟨T, o', h1, h3⟩
section
variable {prog : Program} {w : World} {A : Around} {E : Value → Shared → Prop} {s : Shared}
theorem wpAny_alive {M : Model} {a : Addr} {Q : Option Obj → Shared → Prop} (h : Q (s.heap.get? a) s) : wpAny M A (loadIfAlive a) Q E s := fun Γ p hΓ => by
  unfold loadIfAlive
  rw [Sem.wp_loadIfAlive]
  exact wpAny_pure h Γ p hΓ
theorem enk_next {e it l : Addr} {i : Nat} {items : Array Value} {x : Value} {Q : Option Value → Shared → Prop} (he : EnK s.heap e it i) (hit : s.heap.IsListIter it l i) (hl : s.heap.IsList l items) (hx : items[i]? = some x) (hne : e ≠ it)
    (hQ : ∀ h', EnK h' e it ((i : Int) + 1) → h'.IsListIter it l (i + 1) → h'.get? s.heap.objs.size = some { cls := .type "tuple", data := .seq #[.int i s.toks, x] } → h'.objs.size = s.heap.objs.size + 1 →
      (∀ b o, b ≠ e → b ≠ it → s.heap.get? b = some o → h'.get? b = some o) → Q (some (.ref s.heap.objs.size)) { s with heap := h', toks := s.toks + 1 }) :
    wpAny (model prog w) A (pyNext (.ref e)) Q E s := by
  obtain ⟨f0, old, f1, hef, hf⟩ := he
  rcases hf with ⟨rfl, rfl⟩ | ⟨T, oT, rfl, hT⟩
  · refine wpAny_pyNext_enum_item (old := old) hef hit hl hx hne fun h' a b c d k => ?_
    exact hQ h' ⟨_, _, false, a, .inr ⟨_, _, rfl, c⟩⟩ b c d k
  · have hTy : s.TypeIs (.ref e) "enumerate" := ⟨_, hef, rfl⟩
    unfold pyNext
    refine wpAny_bind (wpAny_attempt (wpAny_callSpecial?_slot (name := Str.ofString "__next__") hTy PySem.F.slot_enumerate_next (wpAny_call_entry PySem.F.slot_enumerate_next hTy PySem.F.entry_enumerate_next ?_ (PySem.F.args_enumerate_next_1 _))))
    obtain ⟨hp, g, d, tk, os⟩ := s
    have hTl : T < hp.objs.size := Heap.lt_size hT
    show wpAny _ _ (field (.ref e) 2 >>= _) _ _ _
    refine wpAny_bind (wpAny_field hef rfl (x := .ref it) rfl ?_)
    refine wpAny_bind (wpAny_nextOf_list_item hit hl hx fun h1 hit1 hs1 => ?_)
    have hs1' : Heap.SameBut it hp h1 := hs1
    have e1 := (hs1'.2 e hne).trans hef
    show wpAny _ _ (field (.ref e) 3 >>= _) _ _ ⟨h1, g, d, tk, os⟩
    refine wpAny_bind (wpAny_field e1 rfl (x := rawInt i) rfl ?_)
    show wpAny _ _ (field (.ref e) 4 >>= _) _ _ ⟨h1, g, d, tk, os⟩
    refine wpAny_bind (wpAny_field e1 rfl (x := .none) rfl ?_)
    show wpAny _ _ (mkInt i >>= _) _ _ ⟨h1, g, d, tk, os⟩
    refine wpAny_bind (wpAny_mkInt ?_)
    show wpAny _ _ (setField (.ref e) 3 (rawInt ((i : Int) + 1)) >>= _) _ _ ⟨h1, g, d, tk + 1, os⟩
    refine wpAny_bind (wpAny_setField_rec e1 (by simp) fun h2 e2 hs2 => ?_)
    have hs2' : Heap.SameBut e h1 h2 := hs2
    show wpAny _ _ (setField (.ref e) 4 .none >>= _) _ _ ⟨h2, g, d, tk + 1, os⟩
    refine wpAny_bind (wpAny_setField_rec e2 (by simp) fun h3 e3 hs3 => ?_)
    have hs3' : Heap.SameBut e h2 h3 := hs3
    show wpAny _ _ (newTuple [.int i tk, x] >>= _) _ _ ⟨h3, g, d, tk + 1, os⟩
    refine wpAny_bind (wpAny_newTuple ?_)
    have hz3 : h3.objs.size = hp.objs.size := by rw [hs3'.1, hs2'.1, hs1'.1]
    have e4 := Heap.get?_push_of_some { cls := .type "tuple", data := .seq #[.int i tk, x] } e3
    have t4 : (h3.push { cls := .type "tuple", data := .seq #[.int i tk, x] }).get? hp.objs.size = some { cls := .type "tuple", data := .seq #[.int i tk, x] } := by rw [← hz3]; exact Heap.get?_push_size _ rfl
    have z4 : (h3.push { cls := .type "tuple", data := .seq #[.int i tk, x] }).objs.size = hp.objs.size + 1 := by rw [Heap.size_push, hz3]
    have k4 : ∀ b o, b ≠ e → b ≠ it → hp.get? b = some o → (h3.push { cls := .type "tuple", data := .seq #[.int i tk, x] }).get? b = some o := fun b o h5 h6 hb =>
      Heap.get?_push_of_some _ (hs3'.extBut b o h5 (hs2'.extBut b o h5 (hs1'.extBut b o h6 hb)))
    have it4 : (h3.push { cls := .type "tuple", data := .seq #[.int i tk, x] }).IsListIter it l (i + 1) := by
      obtain ⟨o, ho, r⟩ := (hit1.extBut hs2'.extBut (Ne.symm hne)).extBut hs3'.extBut (Ne.symm hne)
      exact ⟨o, Heap.get?_push_of_some _ ho, r⟩
    have el : e < hp.objs.size := Heap.lt_size hef
    rw [hz3]
    generalize h3.push { cls := .type "tuple", data := .seq #[.int i tk, x] } = h4 at e4 t4 z4 k4 it4
    show wpAny _ _ (Builtin.SmallTypes.ownedTupleIsFree (.ref e) >>= _) _ _ ⟨h4, g, d, tk + 1, os⟩
    have T4 : ∃ o4, h4.get? T = some o4 := by
      by_cases h5 : T = e
      · rw [h5]; exact ⟨_, e4⟩
      · by_cases h6 : T = it
        · obtain ⟨o, ho, _⟩ := it4; rw [h6]; exact ⟨o, ho⟩
        · exact ⟨_, k4 T _ h5 h6 hT⟩
    obtain ⟨o4, T4⟩ := T4
    refine wpAny_bind ?_
    unfold Builtin.SmallTypes.ownedTupleIsFree
    refine wpAny_bind (wpAny_field e4 rfl (x := rawInt (T : Nat)) rfl ?_)
    show wpAny _ _ (loadIfAlive ((T : Nat) : Int).toNat >>= _) _ _ ⟨h4, g, d, tk + 1, os⟩
    refine wpAny_bind (wpAny_alive ?_)
    rw [Int.toNat_natCast]
    show wpAny _ _ (if (h4.get? T).isNone then _ else _) _ _ _
    rw [T4]
    show wpAny _ _ (field (.ref e) 1 >>= _) _ _ ⟨h4, g, d, tk + 1, os⟩
    refine wpAny_bind (wpAny_field e4 rfl (x := .bool f1) rfl ?_)
    cases f1 with
    | true =>
      show wpAny _ _ (pure false) _ _ _
      refine wpAny_pure ?_
      show wpAny _ _ (ret _) _ _ _
      exact wpAny_pure ⟨_, rfl, wpAny_pure (hQ h4 ⟨_, _, true, e4, .inr ⟨T, o4, rfl, T4⟩⟩ it4 t4 z4 k4)⟩
    | false =>
      show wpAny _ _ (setField (.ref e) 1 (.bool true) >>= fun _ => pure false) _ _ _
      refine wpAny_bind (wpAny_setField_rec e4 (by simp) fun h5 e5 hs5 => ?_)
      have hs5' : Heap.SameBut e h4 h5 := hs5
      refine wpAny_pure ?_
      show wpAny _ _ (ret _) _ _ _
      refine wpAny_pure ⟨_, rfl, wpAny_pure (hQ h5 ⟨_, _, true, e5, ?_⟩ (it4.extBut hs5'.extBut (Ne.symm hne)) (hs5'.extBut _ _ (Nat.ne_of_gt el) t4) (by rw [hs5'.1, z4]) fun b o q1 q2 hb => hs5'.extBut b o q1 (k4 b o q1 q2 hb))⟩
      by_cases h6 : T = e
      · rw [h6]; exact .inr ⟨e, _, rfl, e5⟩
      · exact .inr ⟨T, o4, rfl, hs5'.extBut _ _ h6 T4⟩
theorem enk_end {e it l : Addr} {i : Nat} {items : Array Value} {Q : Option Value → Shared → Prop} (hh : A.handled = none) (he : EnK s.heap e it i) (hit : s.heap.IsListIter it l i) (hl : s.heap.IsList l items) (hx : items[i]? = none)
    (hQ : ∀ h', Heap.ExtBut it s.heap h' → Q none { s with heap := h' }) : wpAny (model prog w) A (pyNext (.ref e)) Q E s := by
  have hTy := he.ty
  obtain ⟨f0, old, f1, hef, _⟩ := he
  unfold pyNext
  refine wpAny_bind (wpAny_attempt (wpAny_callSpecial?_slot (name := Str.ofString "__next__") hTy PySem.F.slot_enumerate_next (wpAny_call_entry PySem.F.slot_enumerate_next hTy PySem.F.entry_enumerate_next ?_ (PySem.F.args_enumerate_next_1 _))))
  show wpAny _ _ (field (.ref e) 2 >>= _) _ _ _
  refine wpAny_bind (wpAny_field hef rfl (x := .ref it) rfl ?_)
  refine wpAny_bind (wpAny_nextOf_list_end hh hit hl hx fun h1 x k1 hx1 => ?_)
  obtain ⟨o, ho, hc⟩ := hx1
  exact wpAny_bind (wpAny_isInstance (T := "StopIteration") (b := true) ⟨o, ho, hc⟩ isSubtype_stop (wpAny_pure (hQ _ k1)))
theorem enum_no_len : typeLookup (.type "enumerate") "__len__" = pure none := by rw [typeLookup_type, builtinLookup_eq_fast]; kernel_rfl
theorem enum_no_hint : typeLookup (.type "enumerate") "__length_hint__" = pure none := by rw [typeLookup_type, builtinLookup_eq_fast]; kernel_rfl
end
/-- what a list has taken in of what enumerate gives -/
structure LsF (h h0 : Heap) (N0 : Nat) (S e it : Addr) (items : Array Value) (i : Nat) (acc : Array Value) (c : Nat) : Prop where
  hS : h.get? S = some { cls := .type "list", dict := none, data := .seq acc c, slots := #[] }
  sz : acc.size = i
  el : ∀ (j : Nat) (v : Value), acc[j]? = some v → ∃ (T : Nat) (t : Tok) (x : Value), v = .ref T ∧ N0 ≤ T ∧ items[j]? = some x ∧ h.get? T = some { cls := .type "tuple", data := .seq #[.int (j : Nat) t, x] }
  inj : ∀ (j k : Nat) (v : Value), acc[j]? = some v → acc[k]? = some v → j = k
  old : ∀ (b : Nat) o, b < N0 → b ≠ S → b ≠ e → b ≠ it → h0.get? b = some o → h.get? b = some o
structure LsE (h h0 : Heap) (N0 : Nat) (S e it l : Addr) (items : Array Value) (i : Nat) (acc : Array Value) (c : Nat) : Prop extends LsF h h0 N0 S e it items i acc c where
  en : EnK h e it i
  hit : h.IsListIter it l i
  hl : h.IsList l items
  big : N0 ≤ h.objs.size
section
variable {prog : Program} {w : World} {A : Around} {R : Result → Shared → Prop}
theorem enum_loop (hh : A.handled = none) {h0 : Heap} {N0 : Nat} {S e it l : Nat} {items : Array Value} (hsz : items.size ≤ sizeLine) (d1 : S < N0) (d2 : e < N0) (d3 : it < N0) (d4 : l < N0) (n1 : S ≠ e) (n2 : S ≠ it) (n3 : S ≠ l) (n4 : e ≠ it) (n5 : e ≠ l) (n6 : it ≠ l) (res : Value) :
    ∀ (k i : Nat) (s : Shared) (acc : Array Value) (c : Nat), items.size - i = k → i ≤ items.size → LsE s.heap h0 N0 S e it l items i acc c →
      (∀ h' tk acc' c', LsF h' h0 N0 S e it items items.size acc' c' → R (.ok (.ret res)) { s with heap := h', toks := tk }) →
      codeAny (model prog w) A (.builtin "list.extend.loop" ⟨[.ref S, .ref e, res], []⟩) R s := by
  intro k
  induction k with
  | zero =>
    intro i s acc c hk hi L hR
    have hin : i = items.size := by omega
    subst hin
    refine codeAny_builtin PySem.F.entry_extend_loop ?_
    rw [Around.under_plainId PySem.F.plain_extend_loop _]
    show wpAny _ A.in1 (pyNext (.ref e) >>= _) _ _ s
    refine wpAny_bind (enk_end (show A.in1.handled = none from hh) L.en L.hit L.hl (Array.getElem?_eq_none (Nat.le_refl _)) fun h' x => ?_)
    have kp : ∀ (b : Nat) o, b ≠ it → s.heap.get? b = some o → h'.get? b = some o := fun b o hb q => x b o hb q
    refine wpAny_pure (hR h' _ acc c ⟨kp S _ n2 L.hS, L.sz, fun j v hj => ?_, L.inj, fun b o q1 q2 q3 q4 q5 => kp b o q4 (L.old b o q1 q2 q3 q4 q5)⟩)
    obtain ⟨T, t, y, q1, q2, q3, q4⟩ := L.el j v hj
    exact ⟨T, t, y, q1, q2, q3, kp T _ (by omega) q4⟩
  | succ k ih =>
    intro i s acc c hk hi L hR
    have hlt : i < items.size := by omega
    refine codeAny_builtin PySem.F.entry_extend_loop ?_
    rw [Around.under_plainId PySem.F.plain_extend_loop _]
    show wpAny _ A.in1 (pyNext (.ref e) >>= _) _ _ s
    refine wpAny_bind (enk_next L.en L.hit L.hl (Array.getElem?_eq_getElem hlt) n4 fun h' q1 q2 q3 q4 q5 => ?_)
    have hS' := q5 S _ n1 n2 L.hS
    show wpAny _ A.in1 (updateSeq S (·.push (.ref s.heap.objs.size)) >>= _) _ _ _
    refine wpAny_bind ?_
    have kp : ∀ (b : Nat) o, b ≠ S → h'.get? b = some o → (h'.update S (Obj.mapSeq (·.push (.ref s.heap.objs.size)))).get? b = some o := fun b o hb q => (Heap.get?_update_other _ _ (Ne.symm hb)).trans q
    have hbig := L.big
    have nS : s.heap.objs.size ≠ S := by omega
    refine wpAny_updateSeq hS' rfl (wpAny_pure ⟨plainId_quiet PySem.F.plain_extend_loop _, ih (i + 1) _ (acc.push (.ref s.heap.objs.size)) _ (by omega) hlt ⟨⟨Heap.get?_update_self _ hS' rfl, by rw [Array.size_push, L.sz], fun j v hj => ?_, fun j m v h1 h2 => ?_, fun b o z1 z2 z3 z4 z5 => kp b o z2 (q5 b o z3 z4 (L.old b o z1 z2 z3 z4 z5))⟩, ?_, q2.at fun o q => kp it o (Ne.symm n2) q, ?_, ?_⟩ fun h2 tk acc2 c2 L2 => hR h2 tk acc2 c2 L2⟩)
      (by rw [L.sz]; omega) (by show (acc.push _).size ≤ sizeLine + 1; rw [Array.size_push, L.sz]; omega)
    · rw [Array.getElem?_push] at hj
      split at hj
      · rename_i hj2
        cases hj
        rw [L.sz] at hj2
        subst hj2
        exact ⟨s.heap.objs.size, s.toks, _, rfl, hbig, Array.getElem?_eq_getElem hlt, kp _ _ nS q3⟩
      · obtain ⟨T, t, y, w1, w2, w3, w4⟩ := L.el j v hj
        have u1 : T ≠ e := by omega
        have u2 : T ≠ it := by omega
        exact ⟨T, t, y, w1, w2, w3, kp T _ (by omega) (q5 T _ u1 u2 w4)⟩
    · have old : ∀ (n : Nat), acc[n]? ≠ some (.ref s.heap.objs.size) := fun n hn => by
        obtain ⟨T, t, y, w1, w2, w3, w4⟩ := L.el n _ hn
        cases w1
        exact Nat.lt_irrefl _ (Heap.lt_size w4)
      rw [Array.getElem?_push] at h1 h2
      split at h1
      · split at h2
        · rename_i a b; rw [a, b]
        · cases h1; exact absurd h2 (old m)
      · split at h2
        · cases h2; exact absurd h1 (old j)
        · exact L.inj j m v h1 h2
    · refine q1.keep (fun b o q => ?_) (Heap.get?_update_other _ _ n1)
      by_cases hb : b = S
      · subst hb; exact ⟨_, Heap.get?_update_self _ hS' rfl⟩
      · exact ⟨o, kp b o hb q⟩
    · exact L.hl.at fun o q => kp l o (Ne.symm n3) (q5 l o (Ne.symm n5) (Ne.symm n6) q)
    · show N0 ≤ (h'.update S _).objs.size
      rw [Heap.size_update, q4]; omega
theorem enum_extend {s : Shared} (hh : A.handled = none) {S e it l : Nat} {items : Array Value} (hsz : items.size ≤ sizeLine) (hS : s.heap.get? S = some { cls := .type "list", dict := none, data := .seq #[] 0, slots := #[] }) (he : IsEnum s.heap e it 0 .none) (hit : s.heap.IsListIter it l 0) (hl : s.heap.IsList l items) (n1 : S ≠ e) (n2 : S ≠ it) (n3 : S ≠ l) (n4 : e ≠ it) (n5 : e ≠ l) (n6 : it ≠ l) (res : Value)
    (hR : ∀ h' tk acc' c', LsF h' s.heap s.heap.objs.size S e it items items.size acc' c' → R (.ok (.ret res)) { s with heap := h', toks := tk }) :
    wpAny (model prog w) A.in1 (Builtin.List.listExtendWith (.ref S) (.ref e) res) (fun fin s' => match fin with | .done f => R (.ok f) s' | .again c' => c'.quiet = true ∧ codeAny (model prog w) A c' R s') (fun e s' => R (.error e) s') s := by
  have ty : s.TypeIs (.ref e) "enumerate" := ⟨_, he, rfl⟩
  unfold Builtin.List.listExtendWith
  refine wpAny_bind (wpAny_typeOf ty ?_)
  have g1 : Builtin.List.listSameRef (.ref S) (.ref e) = false := by simp [Builtin.List.listSameRef, n1]
  have g2 : (Value.type "enumerate" == Value.type "list") = false := by decide
  have g3 : (Value.type "enumerate" == Value.type "tuple") = false := by decide
  simp only [g1, g2, g3, Bool.or_false, Bool.false_eq_true, if_false]
  refine wpAny_bind (wpAny_pyIter_enum he ?_)
  refine wpAny_bind (wpAny_holding ?_)
  unfold Builtin.List.listLengthHint
  refine wpAny_bind (wpAny_specialOf ty enum_no_len ?_)
  show wpAny _ A.in1 (specialOf (Value.ref e) (Str.ofString "__length_hint__") >>= _) _ _ _
  refine wpAny_bind (wpAny_specialOf ty enum_no_hint ?_)
  refine wpAny_pure ?_
  show wpAny _ A.in1 (rule "list.extend.makes-room" >>= fun _ => Builtin.List.listTouch (.ref S) >>= fun _ => again (.builtin "list.extend.loop" ⟨[.ref S, .ref e, res], []⟩)) _ _ _
  refine wpAny_bind (wpAny_rule ?_)
  refine wpAny_bind ?_
  show wpAny _ A.in1 (updateSeq S (·.push .none) >>= fun _ => updateSeq S (·.pop)) _ _ _
  refine wpAny_bind (wpAny_updateSeq hS rfl ?_)
  have s2 := Heap.get?_update_self (Obj.mapSeq (·.push Value.none)) hS rfl
  refine wpAny_updateSeq (hz := by seq_fits) s2 rfl ?_
  have s3 := Heap.get?_update_self (Obj.mapSeq (·.pop)) s2 rfl
  have ot : ∀ (b : Nat) o, b ≠ S → s.heap.get? b = some o → ((s.heap.update S (Obj.mapSeq (·.push Value.none))).update S (Obj.mapSeq (·.pop))).get? b = some o := fun b o hb q => (Heap.get?_update_other _ _ (Ne.symm hb)).trans ((Heap.get?_update_other _ _ (Ne.symm hb)).trans q)
  refine wpAny_pure ⟨plainId_quiet PySem.F.plain_extend_loop _, enum_loop hh hsz (Heap.lt_size hS) (Heap.lt_size he) (by obtain ⟨o, ho, _⟩ := hit; exact Heap.lt_size ho) (by obtain ⟨o, ho, _⟩ := hl; exact Heap.lt_size ho) n1 n2 n3 n4 n5 n6 res items.size 0 _ #[] _ rfl (Nat.zero_le _) ⟨⟨s3, rfl, fun j v hj => by simp at hj, fun j k v hj => by simp at hj, fun b o z1 z2 z3 z4 z5 => ot b o z2 z5⟩, ⟨_, _, false, ot e _ (Ne.symm n1) he, .inl ⟨rfl, rfl⟩⟩, hit.at fun o q => ot it o (Ne.symm n2) q, hl.at fun o q => ot l o (Ne.symm n3) q, ?_⟩ fun h' tk acc' c' L => hR h' tk acc' c' L⟩
  show s.heap.objs.size ≤ ((s.heap.update S _).update S _).objs.size
  rw [Heap.size_update, Heap.size_update]
  exact Nat.le_refl _
end
end Mw

/-! MwR: list(enumerate(xs)), the call and the rule. -/
namespace Mw
open PySem PySem.Spec L2
section
variable {prog : Program} {w : World} {A : Around} {E : Value → Shared → Prop} {s : Shared}
theorem call_list_enum {Q : Value → Shared → Prop} {e it l : Nat} {items : Array Value} (hh : A.handled = none) (hsz : items.size ≤ sizeLine) (he : IsEnum s.heap e it 0 .none) (hit : s.heap.IsListIter it l 0) (hl : s.heap.IsList l items) (n4 : e ≠ it) (n5 : e ≠ l) (n6 : it ≠ l)
    (hQ : ∀ h' tk acc c', (∀ (b : Nat) o, b ≠ e → b ≠ it → s.heap.get? b = some o → h'.get? b = some o) → h'.get? s.heap.objs.size = some { cls := .type "list", dict := none, data := .seq acc c', slots := #[] } → acc.size = items.size →
      (∀ (j : Nat) (v : Value), acc[j]? = some v → ∃ (T : Nat) (t : Tok) (x : Value), v = .ref T ∧ s.heap.objs.size < T ∧ items[j]? = some x ∧ h'.get? T = some { cls := .type "tuple", data := .seq #[.int (j : Nat) t, x] }) →
      (∀ (j k : Nat) (v : Value), acc[j]? = some v → acc[k]? = some v → j = k) → Q (.ref s.heap.objs.size) { s with heap := h', toks := tk }) :
    wpAny (model prog w) A (call (.type "list") [.ref e]) Q E s := by
  have le := Heap.lt_size he
  have li : it < s.heap.objs.size := by obtain ⟨o, ho, _⟩ := hit; exact Heap.lt_size ho
  have ll : l < s.heap.objs.size := by obtain ⟨o, ho, _⟩ := hl; exact Heap.lt_size ho
  refine callType_codes (Q₁ := fun obj s₁ => obj = .ref s.heap.objs.size ∧ s₁ = { s with heap := s.heap.push { cls := .type "list", data := .seq #[] } }) PySem.F.called_list (PySem.F.typeCall_list_1 _) PySem.F.entry_list_init (code_list_new _ ⟨rfl, rfl⟩) fun obj s₁ h₁ => ?_
  obtain ⟨rfl, rfl⟩ := h₁
  have hS : (s.heap.push { cls := .type "list", data := .seq #[] }).get? s.heap.objs.size = some { cls := .type "list", data := .seq #[] } := Heap.get?_push_size _ rfl
  refine ⟨⟨_, hS, rfl⟩, PySem.F.args_list_init_2 _ _, ?_⟩
  show wpAny _ _ (do let old ← Builtin.List.listItems (.ref s.heap.objs.size); Builtin.List.listUpdate (.ref s.heap.objs.size) (fun _ => #[]); letGo old.toList.reverse; Builtin.List.listExtendWith (.ref s.heap.objs.size) (.ref e) .none) _ _ _
  refine wpAny_bind ?_
  unfold Builtin.List.listItems
  refine wpAny_bind (wpAny_seqItems hS rfl (wpAny_pure ?_))
  show wpAny _ _ (updateSeq s.heap.objs.size (fun _ => #[]) >>= fun _ => letGo (#[] : Array Value).toList.reverse >>= fun _ => Builtin.List.listExtendWith (.ref s.heap.objs.size) (.ref e) .none) _ _ _
  refine wpAny_bind (wpAny_updateSeq hS rfl ?_)
  have s2 := Heap.get?_update_self (Obj.mapSeq (fun _ => (#[] : Array Value))) hS rfl
  have ot : ∀ (b : Nat) o, b ≠ s.heap.objs.size → s.heap.get? b = some o → ((s.heap.push { cls := .type "list", data := .seq #[] }).update s.heap.objs.size (Obj.mapSeq (fun _ => (#[] : Array Value)))).get? b = some o :=
    fun b o hb q => (Heap.get?_update_other _ _ (Ne.symm hb)).trans (Heap.get?_push_of_some _ q)
  refine wpAny_bind (wpAny_letGo ?_)
  have u1 : e ≠ s.heap.objs.size := Nat.ne_of_lt le
  have u2 : it ≠ s.heap.objs.size := Nat.ne_of_lt li
  have u3 : l ≠ s.heap.objs.size := Nat.ne_of_lt ll
  refine enum_extend (A := A.in1) hh (S := s.heap.objs.size) (e := e) (it := it) (l := l) hsz s2 (ot e _ u1 he) (hit.at fun o q => ot it o u2 q) (hl.at fun o q => ot l o u3 q) (Ne.symm u1) (Ne.symm u2) (Ne.symm u3) n4 n5 n6 .none fun h' tk acc c' L => ?_
  have sz : ((s.heap.push { cls := .type "list", data := .seq #[] }).update s.heap.objs.size (Obj.mapSeq (fun _ => (#[] : Array Value)))).objs.size = s.heap.objs.size + 1 := by rw [Heap.size_update, Heap.size_push]
  refine ⟨rfl, hQ h' tk acc c' (fun b o h1 h2 q => ?_) L.hS L.sz (fun j v hj => ?_) L.inj⟩
  · have hb : b < s.heap.objs.size := Heap.lt_size q
    exact L.old b o (Nat.lt_of_lt_of_le hb (by rw [sz]; exact Nat.le_succ _)) (Nat.ne_of_lt hb) h1 h2 (ot b o (Nat.ne_of_lt hb) q)
  · obtain ⟨T, t, x, h1, h2, h3, h4⟩ := L.el j v hj
    rw [sz] at h2
    exact ⟨T, t, x, h1, h2, h3, h4⟩
end
/-- the tuples (k, x), (k + 1, y), .. at the places ps -/
def layT (H : Hp) : List Addr → List V → Nat → Hp
  | p :: ps, x :: xs, k => layT (upd H p (.tup [.int (k : Nat), x])) ps xs (k + 1)
  | _, _, _ => H
theorem layT_out {a : Addr} : ∀ {ps : List Addr} {xs : List V} {k : Nat} {H : Hp}, a ∉ ps → layT H ps xs k a = H a
  | [], _, _, _, _ => by unfold layT; rfl
  | p :: ps, [], _, _, _ => by unfold layT; rfl
  | p :: ps, x :: xs, k, H, h => by
    show layT (upd H p _) ps xs (k + 1) a = _
    rw [layT_out fun z => h (List.mem_cons_of_mem _ z), upd_ne fun z => h (by rw [z]; exact List.mem_cons_self)]
theorem layT_in : ∀ {ps : List Addr} {xs : List V} {k : Nat} {H : Hp} {j : Nat} {p : Addr} {x : V}, ps.Nodup → ps[j]? = some p → xs[j]? = some x → layT H ps xs k p = some (.tup [.int ((k + j : Nat) : Int), x])
  | [], _, _, _, _, _, _, _, h, _ => by simp at h
  | q :: ps, [], _, _, _, _, _, _, _, h => by simp at h
  | q :: ps, y :: xs, k, H, 0, p, x, nd, h1, h2 => by
    simp at h1 h2
    subst h1 h2
    show layT (upd H q _) ps xs (k + 1) q = _
    rw [layT_out (List.nodup_cons.mp nd).1, upd_same]
    rfl
  | q :: ps, y :: xs, k, H, j + 1, p, x, nd, h1, h2 => by
    show layT (upd H q _) ps xs (k + 1) p = _
    rw [layT_in (j := j) (List.nodup_cons.mp nd).2 (by simpa using h1) (by simpa using h2)]
    rw [show k + 1 + j = k + (j + 1) by omega]
section
variable {X : Cx} {pins : List (Addr × Obj)} {σ : L2.St} {s : Shared}
theorem lay_all (h2 : Heap) : ∀ (ps : List Addr) (xs : List V) (k : Nat) (H : Hp) (G : Heap) (tk : Nat), Inv X pins σ H { s with heap := G, toks := tk } → (∀ b o, G.get? b = some o → h2.get? b = some o) → (∀ T ∈ ps, G.get? T = none ∧ H T = none) → ps.Nodup → ps.length = xs.length →
    (∀ (j : Nat) (T : Addr) (x : V), ps[j]? = some T → xs[j]? = some x → ∃ u t, RelV x u ∧ h2.get? T = some { cls := .type "tuple", data := .seq #[.int ((k + j : Nat) : Int) t, u] }) →
    ∃ G', Inv X pins σ (layT H ps xs k) { s with heap := G', toks := tk } ∧ (∀ b o, G'.get? b = some o → h2.get? b = some o) ∧ ∀ b, b ∉ ps → G.get? b = none → G'.get? b = none
  | [], xs, k, H, G, tk, I, g1, _, _, _, _ => ⟨G, by unfold layT; exact I, g1, fun _ _ h => h⟩
  | p :: ps, [], k, H, G, tk, I, _, _, _, hl, _ => by simp at hl
  | p :: ps, x :: xs, k, H, G, tk, I, g1, hn, nd, hl, hT => by
    obtain ⟨nd1, nd2⟩ := List.nodup_cons.mp nd
    obtain ⟨np, nH⟩ := hn p List.mem_cons_self
    obtain ⟨G1, r1, r2⟩ := restrict h2 fun b => (G.get? b).isSome || decide (b = p)
    have sub : ∀ b o, G1.get? b = some o → h2.get? b = some o := fun b o e => by
      cases hb : ((G.get? b).isSome || decide (b = p)) with
      | true => rw [r1 b hb] at e; exact e
      | false => rw [r2 b hb] at e; cases e
    have up : ∀ b o, G.get? b = some o → G1.get? b = some o := fun b o e => by
      rw [r1 b (by rw [e]; rfl)]; exact g1 b o e
    obtain ⟨u, t, ru, hp⟩ := hT 0 p x rfl rfl
    have hp1 : G1.get? p = some { cls := .type "tuple", data := .seq #[.int ((k : Nat) : Int) t, u] } := by
      rw [r1 p (by simp)]; exact hp
    have I1 : Inv X pins σ (upd H p (.tup [.int (k : Nat), x])) { s with heap := G1, toks := tk } :=
      I.laidN (t' := tk) up np nH (show ObjOk X.prog X.w _ _ _ (.tup _) from ⟨by simp [sizeLine_eq], [.int ((k : Nat) : Int) t, u], .cons ⟨t, rfl⟩ (.cons ru .nil), _, hp1, rfl, _, rfl⟩)
    obtain ⟨G', a1, a2, a3⟩ := lay_all h2 ps xs (k + 1) _ G1 tk I1 sub (fun T hm => by
      obtain ⟨q1, q2⟩ := hn T (List.mem_cons_of_mem _ hm)
      have ne : T ≠ p := fun z => nd1 (by rw [← z]; exact hm)
      refine ⟨r2 T ?_, by rw [upd_ne ne]; exact q2⟩
      rw [q1]
      simp [ne]) nd2 (by simpa using hl) (fun j T y e1 e2 => by
      obtain ⟨u, t, q1, q2⟩ := hT (j + 1) T y (by simpa using e1) (by simpa using e2)
      exact ⟨u, t, q1, by rw [show k + 1 + j = k + (j + 1) by omega]; exact q2⟩)
    refine ⟨G', a1, a2, fun b hb hg => a3 b (fun z => hb (List.mem_cons_of_mem _ z)) (r2 b ?_)⟩
    rw [hg]
    have ne : b ≠ p := fun z => hb (by rw [z]; exact List.mem_cons_self)
    simp [ne]
end
def tLE (K : PySem.W.Frag) (ta : TA) : TE := fun σ H Q => ta σ H fun vs H1 => ∃ a xs, vs = [V.ref a] ∧ SqL K H1 a xs ∧ ∀ (ps : List Addr) (p : Addr), ps.length = xs.length → (p :: ps).Nodup → (∀ b, b ∈ p :: ps → H1 b = none) → Q (.ref p) (upd (layT H1 ps xs 0) p (.lst (ps.map V.ref)))
theorem pe_listEnum {X : Cx} {a : Expr} {ta : TA} {p1 p2 pos pos2 : Pos} (hc : X.calm = true) (hgl : Gl X "list") (hml : X.mg "list" = none) (hg : Gl X "enumerate") (hm : X.mg "enumerate" = none) (ha : PA X [a] ta) (hs : starEach [a] X.env = [(false, eval a X.env)])
    (na : starEach [.Call (.Name "enumerate" p2) [a] [] pos2] X.env = (false, eval (.Call (.Name "enumerate" p2) [a] [] pos2) X.env) :: starEach [] X.env) :
    PE X (.Call (.Name "list" p1) [.Call (.Name "enumerate" p2) [a] [] pos2] [] pos) (tLE X.K ta) := by
  refine ⟨fun pins s σ H Q I h => ?_⟩
  refine PyProof.Rows.Call_ (ld_blt I hgl hml PyProof.Rows.boot_list (PyProof.Rows.callWith_type1 (PyProof.Rows.args_cons (thn (M := model X.prog X.w) (Q := fun x s' => ∃ (l : Addr) (xs : List V) (s1 : Shared) (H1 : Hp), x = .ref (s1.heap.objs.size + 1) ∧ Inv X pins σ H1 s1 ∧ SqL X.K H1 l xs ∧ (∃ h', s' = { s1 with heap := h' } ∧ IsEnum h' (s1.heap.objs.size + 1) s1.heap.objs.size 0 .none ∧ h'.IsListIter s1.heap.objs.size l 0 ∧ ∀ b o, s1.heap.get? b = some o → h'.get? b = some o) ∧
    ∀ (ps : List Addr) (p : Addr), ps.length = xs.length → (p :: ps).Nodup → (∀ b, b ∈ p :: ps → H1 b = none) → Q (.ref p) (upd (layT H1 ps xs 0) p (.lst (ps.map V.ref)))) ?_ fun x s' hx => PyProof.Rows.args_nil ?_) na) na))
  · refine PyProof.Rows.Call_ (ld_blt I hg hm PyProof.Rows.boot_enumerate (PyProof.Rows.callWith_type1 (thn (ha.run pos2 pins s σ H _ I h) fun us s1 ⟨vs, H1, I1, r1, q1⟩ => ?_) hs rfl))
    obtain ⟨l, xs, ex, hq, q⟩ := q1
    subst ex
    cases r1 with
    | cons r rr =>
      cases rr
      cases r
      obtain ⟨its, rv, pl, hz⟩ := I1.list hq
      exact call_enumerate_list pl.isList fun h' he hit hsz hk => ⟨l, xs, s1, H1, rfl, I1, hq, ⟨h', rfl, he, hit, hk⟩, q⟩
  · obtain ⟨l, xs, s1, H1, rfl, I1, hq, ⟨h', rfl, he, hit, hk⟩, q⟩ := hx
    obtain ⟨its, rv, pl, hz⟩ := I1.list hq
    have hl := pl.isList
    have hl2 : h'.IsList l its.toArray := hl.at fun o e => hk l o e
    have lt : l < s1.heap.objs.size := by obtain ⟨o, ho, _⟩ := hl; exact Heap.lt_size ho
    refine call_list_enum (I1.ok.hd hc) (by rw [List.size_toArray, ← rv.length]; exact hz) he hit hl2 (Nat.succ_ne_self _) (Nat.ne_of_gt (Nat.lt_succ_of_lt lt)) (Nat.ne_of_gt lt) fun h2 tk acc c' old hS sz el inj => ?_
    have hN : s1.heap.objs.size < h'.objs.size := Nat.lt_of_succ_lt (Heap.lt_size he)
    have k12 : ∀ b o, s1.heap.get? b = some o → h2.get? b = some o := fun b o q => by
      have hb : b < s1.heap.objs.size := Heap.lt_size q
      exact old b o (Nat.ne_of_lt (Nat.lt_succ_of_lt hb)) (Nat.ne_of_lt hb) (hk b o q)
    have nil1 : ∀ b : Nat, s1.heap.objs.size ≤ b → s1.heap.get? b = none := fun b hb => by
      cases e : s1.heap.get? b with
      | none => rfl
      | some o => exact absurd (Heap.lt_size e) (Nat.not_lt.mpr hb)
    obtain ⟨ps, hps⟩ : ∃ ps : List Addr, acc.toList = ps.map Value.ref := by
      refine ⟨acc.toList.map fun v => match v with | .ref a => a | _ => 0, ?_⟩
      rw [List.map_map]
      refine List.ext_getElem? fun j => ?_
      rw [List.getElem?_map]
      cases e : acc.toList[j]? with
      | none => rfl
      | some v =>
        obtain ⟨T, t, x, rfl, _⟩ := el j v (by rw [← e, Array.getElem?_toList])
        rfl
    have hpl : ps.length = acc.size := by have := congrArg List.length hps; rw [List.length_map, Array.length_toList] at this; exact this.symm
    have hxl : ps.length = xs.length := by rw [hpl, sz, List.size_toArray, rv.length]
    have at1 : ∀ (j : Nat) (T : Addr), ps[j]? = some T → acc[j]? = some (.ref T) := fun j T e => by
      rw [← Array.getElem?_toList, hps, List.getElem?_map, e]; rfl
    have big : ∀ T, T ∈ ps → h'.objs.size < T := fun T hm => by
      obtain ⟨j, hj, e⟩ := List.getElem_of_mem hm
      obtain ⟨T', t, x, e1, h1, _⟩ := el j _ (at1 j T (by rw [List.getElem?_eq_getElem hj, e]))
      cases e1
      exact h1
    have ndp : ps.Nodup := by
      unfold List.Nodup
      rw [List.pairwise_iff_getElem]
      intro i j hi hj hij e
      have := inj i j _ (at1 i ps[j] (by rw [List.getElem?_eq_getElem hi, e])) (at1 j ps[j] (List.getElem?_eq_getElem hj))
      omega
    obtain ⟨G', J, g2, g3⟩ := lay_all h2 ps xs 0 H1 s1.heap tk (I1.kept (t' := tk) (h' := s1.heap) fun b u q => q) k12 (fun T hm => by
      have := big T hm
      have hT : s1.heap.objs.size ≤ T := Nat.le_of_lt (Nat.lt_trans hN this)
      exact ⟨nil1 T hT, I1.hok.fresh hT⟩) ndp hxl (fun j T x e1 e2 => by
      obtain ⟨u, hu, ru⟩ := rv.get e2
      obtain ⟨T', t, y, q1, q2, q3, q4⟩ := el j _ (at1 j T e1)
      cases q1
      rw [List.getElem?_toArray, hu] at q3
      cases q3
      exact ⟨u, t, ru, by rw [Nat.zero_add]; exact q4⟩)
    have pn : h'.objs.size ∉ ps := fun hm => Nat.lt_irrefl _ (big _ hm)
    have J2 : Inv X pins σ (upd (layT H1 ps xs 0) h'.objs.size (.lst (ps.map V.ref))) { s1 with heap := h2, toks := tk } :=
      J.laidN (t' := tk) g2 (g3 _ pn (nil1 _ (Nat.le_of_lt hN))) (by rw [layT_out pn]; exact I1.hok.fresh (Nat.le_of_lt hN)) (show ObjOk X.prog X.w _ _ _ (.lst _) from ⟨by rw [List.length_map, hxl]; exact hz, acc.toList, c', by
        rw [hps]
        have go : ∀ l : List Addr, Vals (l.map V.ref) (l.map Value.ref) := fun l => by
          induction l with
          | nil => exact .nil
          | cons a r ih => exact .cons rfl ih
        exact go ps, by rw [Array.toArray_toList]; exact hS⟩)
    refine ⟨.ref h'.objs.size, _, J2, rfl, q ps h'.objs.size hxl (List.nodup_cons.mpr ⟨pn, ndp⟩) fun b hb => ?_⟩
    rcases List.mem_cons.mp hb with rfl | hm
    · exact I1.hok.fresh (Nat.le_of_lt hN)
    · exact I1.hok.fresh (Nat.le_of_lt (Nat.lt_trans hN (big b hm)))
end Mw

/-! MwS: list(enumerate(xs)) and list(range(n)) by trees. -/
namespace Mw
open PySem PySem.Spec L2
variable [Tb]
theorem Trs.of_get {K : PySem.W.Frag} {S : Hp} : ∀ {vs : List V} {ds : List PyData}, vs.length = ds.length → (∀ (j : Nat) (v : V) (d : PyData), vs[j]? = some v → ds[j]? = some d → Tr K S v d) → Trs K S vs ds
  | [], [], _, _ => .nil
  | v :: vs, d :: ds, hl, h => .cons (h 0 v d rfl rfl) (Trs.of_get (by simpa using hl) fun j v d e1 e2 => h (j + 1) v d (by simpa using e1) (by simpa using e2))
  | [], _ :: _, hl, _ => by simp at hl
  | _ :: _, [], hl, _ => by simp at hl
section
variable {c : CxD} {B : Bs} {e a b : Expr} {sl sl1 sl2 : List Sl} {p q : Bool} {k1 : Kd} {pos pos2 p1 p2 : Pos} {ds : List PyData}
theorem ev_listEnum (ha : EV c B a sl p k1 sl1) (hml : c.mg "list" = none) (hm : c.mg "enumerate" = none) (hl : LsK k1 ds := by first | exact .st | exact .ls | exact .fr) (hgl : c.sc.names.lookup ("list" : Str) = some .globalImplicit := by rfl) (hg : c.sc.names.lookup ("enumerate" : Str) = some .globalImplicit := by rfl)
    (he : ∀ env, starEach [a] env = [(false, eval a env)] := by intro env; rfl) (na : ∀ env, starEach [.Call (.Name "enumerate" p2) [a] [] pos2] env = (false, eval (.Call (.Name "enumerate" p2) [a] [] pos2) env) :: starEach [] env := by intro env; rfl) :
    EV c B (.Call (.Name "list" p1) [.Call (.Name "enumerate" p2) [a] [] pos2] [] pos) sl p (.fr (.lst (numbered ds))) sl1 := by
  obtain ⟨ta, ga, sa⟩ := ha
  refine ⟨tLE c.K (tCons ta tNil), fun X hX => by have := pe_listEnum (p1 := p1) (p2 := p2) (pos := pos) (pos2 := pos2) hX.calm (hX.g _ hgl) (by rw [hX.hm]; exact hml) (hX.g _ hg) (by rw [hX.hm]; exact hm) (pa_cons (ga X hX) pa_nil (he _)) (he _) (na _); rw [hX.hK] at this; exact this, fun S H σ I Q fn => ?_⟩
  refine sa S H σ I _ fun v S1 H1 I1 a1 x1 f1 => ?_
  obtain ⟨l, xs, rfl, hq, t⟩ := hl.rd I1 x1
  refine ⟨l, xs, rfl, hq, fun ps p hpl nd fresh => ?_⟩
  obtain ⟨np, ndp⟩ := List.nodup_cons.mp nd
  have fH : ∀ b, b ∈ ps → H1 b = none := fun b hb => fresh b (List.mem_cons_of_mem _ hb)
  have hp : H1 p = none := fresh p List.mem_cons_self
  obtain ⟨w1, w2, w3⟩ := I1.notIn hp
  have s1 : Same S1 (layT S1 ps xs 0) := fun b u e => by
    rw [layT_out fun z => by have := fH b z; rw [I1.sh _ _ e] at this; cases this]; exact e
  have h1 : Same H1 (upd (layT H1 ps xs 0) p (.lst (ps.map V.ref))) := fun b u e => by
    rw [upd_ne (ne_of_none e hp), layT_out fun z => by have := fH b z; rw [e] at this; cases this]; exact e
  have inS : ∀ (j : Nat) (T : Addr) (x : V), ps[j]? = some T → xs[j]? = some x → layT S1 ps xs 0 T = some (.tup [.int (j : Nat), x]) ∧ layT H1 ps xs 0 T = some (.tup [.int (j : Nat), x]) := fun j T x e1 e2 => by
    have a1 := layT_in (k := 0) (H := S1) ndp e1 e2
    have a2 := layT_in (k := 0) (H := H1) ndp e1 e2
    rw [Nat.zero_add] at a1 a2
    exact ⟨a1, a2⟩
  have at2 : ∀ T, T ∈ ps → ∃ j x, ps[j]? = some T ∧ xs[j]? = some x := fun T hm => by
    obtain ⟨j, hj, e⟩ := List.getElem_of_mem hm
    exact ⟨j, xs[j]'(by rw [← hpl]; exact hj), by rw [List.getElem?_eq_getElem hj, e], List.getElem?_eq_getElem _⟩
  have sh : Same (layT S1 ps xs 0) (upd (layT H1 ps xs 0) p (.lst (ps.map V.ref))) := fun b u e => by
    by_cases hb : b ∈ ps
    · obtain ⟨j, x, e1, e2⟩ := at2 b hb
      obtain ⟨a1, a2⟩ := inS j b x e1 e2
      rw [a1] at e
      rw [upd_ne (fun z => np (by rw [← z]; exact hb)), a2]
      exact e
    · rw [layT_out hb] at e
      exact h1 _ _ (I1.sh _ _ e)
  have n1 : ∀ (b : Addr) (u : HO), layT S1 ps xs 0 b = some u → S1 b = none → H1 b = none := fun b u e1 e2 => by
    by_cases hb : b ∈ ps
    · exact fH b hb
    · rw [layT_out hb, e2] at e1; cases e1
  have nt : NoT (layT S1 ps xs 0) := fun b q e => by
    by_cases hb : b ∈ ps
    · obtain ⟨j, x, e1, e2⟩ := at2 b hb
      obtain ⟨a1, a2⟩ := inS j b x e1 e2
      rw [a1] at e
      cases e
    · rw [layT_out hb] at e; exact I1.snt b q e
  have I2 := I1.grow s1 h1 sh n1 nt
  refine (Mw.fin fn a1 fun h => h) (.ref p) _ _ I2 ⟨s1, n1, fun b u e => ⟨u, h1 _ _ e⟩, fun b u e _ _ => h1 _ _ e, fun _ => same_sam h1, fun _ h => h⟩ ⟨p, rfl, by rw [layT_out np]; exact w1, w2, ⟨_, upd_same, ?_⟩, w3⟩ (fun l' e => by cases e; exact hp)
  refine Trs.of_get (by rw [List.length_map, hpl, numbered_len, t.len]) fun j v d e1 e2 => ?_
  rw [List.getElem?_map] at e1
  obtain ⟨T, hT, rfl⟩ := Option.map_eq_some_iff.mp e1
  have hj : j < ds.length := by have := (List.getElem?_eq_some_iff.mp e2).1; rwa [numbered_len] at this
  have hd := numbered_get (List.getElem?_eq_getElem hj)
  rw [hd] at e2
  cases e2
  obtain ⟨x, hx, tx⟩ := t.get (List.getElem?_eq_getElem hj)
  obtain ⟨a1', _⟩ := inS j T x hT hx
  exact .tup (.inl (.inl a1')) (.cons (.int _) (.cons (tx.mono s1) .nil))
/-- list(range(n)) -/
theorem ev_listRg {n : Int} (ha : EV c B a sl p (.st (.int n)) sl1) (hml : c.mg "list" = none) (hm : c.mg "range" = none) (hn : n ≤ 1000000) (hn0 : -1000000 ≤ n := by omega) (hgl : c.sc.names.lookup ("list" : Str) = some .globalImplicit := by rfl) (hg : c.sc.names.lookup ("range" : Str) = some .globalImplicit := by rfl)
    (he : ∀ env, starEach [a] env = (false, eval a env) :: starEach [] env := by intro env; rfl) (na : ∀ env, starEach [.Call (.Name "range" p2) [a] [] pos2] env = (false, eval (.Call (.Name "range" p2) [a] [] pos2) env) :: starEach [] env := by intro env; rfl) :
    EV c B (.Call (.Name "list" p1) [.Call (.Name "range" p2) [a] [] pos2] [] pos) sl p (.fr (.lst (upI 0 n.toNat))) sl1 := by
  obtain ⟨ta, ga, sa⟩ := ha
  refine ⟨tLstRg (tRg1 ta), fun X hX => pe_listRg hX.calm (hX.g _ hgl) (by rw [hX.hm]; exact hml) (prg_1 (hX.g _ hg) (by rw [hX.hm]; exact hm) (ga X hX) (he _)) (na _), fun S H σ I Q fn => ?_⟩
  refine sa S H σ I _ fun v S1 H1 I1 a1 x1 f1 => ⟨n, tr_int x1, ⟨by omega, by omega, by omega, by omega, by omega⟩, fun m hm => ?_⟩
  refine (Mw.fin fn a1 fun h => h).fresh I1 hm ?_
  refine Trs.of_get (by rw [rgV_length, upI_len, Int.sub_zero]) fun j v d e1 e2 => ?_
  obtain ⟨hj, rfl⟩ := upI_at e2
  unfold rgV at e1
  rw [List.getElem?_map, List.getElem?_range (by rw [Int.sub_zero]; exact hj)] at e1
  cases e1
  exact .int _
end
end Mw

/-! NwT: trees of one's own. -/
namespace Mw
open PySem PySem.Spec L2
variable [Tb]
/-- e gives a new tree of one's own -/
def EVP (c : CxD) (B : Bs) (e : Expr) (sl : List Sl) (p : Bool) (t : PTr) (sl' : List Sl) : Prop :=
  ∃ r, (∀ X, InCx c X → PE X e r) ∧ ∀ S H σ, Stt c.K B S H σ sl → ∀ Q : VK, (∀ v S' H' fp, Stt c.K B S' H' σ sl' → Adv σ sl S H sl' S' H' p → TrP c.K S' H' fp v t → fp.Nodup → (∀ a ∈ fp, S' a = none ∧ B.H0 a = none ∧ ¬ OwnAt σ sl' a ∧ H a = none) → Q v H') → r σ H Q
def AVP (c : CxD) (B : Bs) (es : List Expr) (sl : List Sl) (p : Bool) (ts : List PTr) (sl' : List Sl) : Prop :=
  ∃ r, (∀ X, InCx c X → PA X es r) ∧ ∀ S H σ, Stt c.K B S H σ sl → ∀ Q : List V → Hp → Prop, (∀ vs S' H' fp, Stt c.K B S' H' σ sl' → Adv σ sl S H sl' S' H' p → TrPs c.K S' H' fp vs ts → fp.Nodup → (∀ a ∈ fp, S' a = none ∧ B.H0 a = none ∧ ¬ OwnAt σ sl' a ∧ H a = none) → Q vs H') → r σ H Q
section
variable {c : CxD} {B : Bs} {tg e a b : Expr} {es : List Expr} {ss rest : List Stmt} {sl sl1 sl2 sl3 : List Sl} {p q : Bool} {k k1 k2 : Kd} {ks : List Kd} {pos p1 p2 p3 p4 p5 : Pos} {R : Rt} {d : PyData} {ds ds' : List PyData} {t t1 t2 t3 : PTr} {ts : List PTr} {i : Nat}
theorem Adv.new {σ : L2.St} {S H S' H' : Hp} {l : Addr} (a : Adv σ sl S H sl1 S' H' p) (h : H' l = none) : H l = none := by
  cases e : H l with
  | none => rfl
  | some o => obtain ⟨o', e1⟩ := a.d l o e; rw [h] at e1; cases e1
theorem evp_st (h : EV c B e sl p (.st d) sl1) : EVP c B e sl p (.st d) sl1 := by
  obtain ⟨r, hr, hs⟩ := h
  exact ⟨r, hr, fun S H σ I Q q => hs S H σ I Q fun v S' H' I' a x _ => q v S' H' [] I' a (.st x) (by simp) (fun a m => absurd m (by simp))⟩
theorem evp_fr (h : EV c B e sl p (.fr (.lst ds)) sl1) : EVP c B e sl p (.ls ds) sl1 := by
  obtain ⟨r, hr, hs⟩ := h
  refine ⟨r, hr, fun S H σ I Q q => hs S H σ I Q fun v S' H' I' a x f => ?_⟩
  obtain ⟨l, rfl, n, n0, ⟨xs, e, tr⟩, na⟩ := x
  refine q _ S' H' [l] I' a (.ls e tr) (by simp) fun b m => ?_
  rw [List.mem_singleton.mp m]
  exact ⟨n, n0, na, f l rfl⟩
theorem EVP.to (h : EVP c B e sl p t sl1) {t' : PTr} (hk : t = t') : EVP c B e sl p t' sl1 := hk ▸ h
theorem EVP.nw (h : EVP c B e sl p t sl1) : EV c B e sl p (.nw t.d) sl1 := by
  obtain ⟨r, hr, hs⟩ := h
  exact ⟨r, hr, fun S H σ I Q q => hs S H σ I Q fun v S' H' fp I' a x _ _ => q v S' H' I' a (TrP.tr I'.sh x fun _ _ => rfl) trivial⟩
/-- what stands nowhere else will not change any more -/
theorem Stt.frzN {K : PySem.W.Frag} {S H : Hp} {σ : L2.St} {fp : List Addr} (I : Stt K B S H σ sl) (n : ∀ a ∈ fp, S a = none ∧ B.H0 a = none ∧ ¬ OwnAt σ sl a) (nt : ∀ a ∈ fp, ∀ ps, H a ≠ some (.tbl ps)) : Stt K B (layS S H fp) H σ sl := by
  have s1 := layS_ext (H := H) fun a m => (n a m).1
  refine ⟨I.s0.trans s1, fun b u e1 => ?_, fun b u e1 e2 => ?_, I.keep, I.dom, I.lsd, I.len, fun j s2 es => ?_, I.dis, I.tabs, I.tbk, fun a ps e => ?_, I.sm⟩
  · by_cases m : b ∈ fp
    · rw [layS_in m] at e1; exact e1
    · rw [layS_out m] at e1; exact I.sh _ _ e1
  · by_cases m : b ∈ fp
    · exact (n b m).2.1
    · rw [layS_out m] at e1; exact I.new b u e1 e2
  · obtain ⟨y, hy, ok⟩ := I.slot j s2 es
    refine ⟨y, hy, ok.ext s1 (fun _ _ => rfl) fun a m => ?_⟩
    rw [layS_out fun m2 => (n a m2).2.2 ⟨j, s2, y, es, hy, m⟩]
    exact (ok.fp m).1
  · by_cases m : a ∈ fp
    · rw [layS_in m] at e; exact nt a m ps e
    · rw [layS_out m] at e; exact I.snt a ps e
theorem EVP.fz (h : EVP c B e sl p t sl1) : EV c B e sl p (.st t.d) sl1 := by
  obtain ⟨r, hr, hs⟩ := h
  refine ⟨r, hr, fun S H σ I Q q => hs S H σ I Q fun v S' H' fp I' a x nd n => ?_⟩
  have nS : ∀ a ∈ fp, S' a = none := fun a m => (n a m).1
  refine q v (layS S' H' fp) H' (I'.frzN (fun a m => ⟨(n a m).1, (n a m).2.1, (n a m).2.2.1⟩) fun a m ps e => by
    obtain ⟨o, h1, h2⟩ := x.dom a m
    exact Hard.nt h2 ps (Option.some.inj (h1.symm.trans e))) ⟨a.s.trans (layS_ext nS), fun b o e1 e2 => ?_, a.d, a.k, a.h, a.w⟩ (x.frz nS) trivial
  by_cases m : b ∈ fp
  · exact (n b m).2.2.2
  · rw [layS_out m] at e1
    exact a.n b o e1 e2
theorem avp_nil : AVP c B [] sl true [] sl := ⟨tNil, fun _ _ => pa_nil, fun S H σ I Q q => q [] S H [] I .refl .nil (by simp) (fun a m => absurd m (by simp))⟩
theorem avp_cons (ha : EVP c B e sl p t sl1) (hr : AVP c B es sl1 q ts sl2) (hs : ∀ env, starEach (e :: es) env = (false, eval e env) :: starEach es env := by intro env; rfl) : AVP c B (e :: es) sl (p && q) (t :: ts) sl2 := by
  obtain ⟨ta, ga, sa⟩ := ha
  obtain ⟨tb, gb, sb⟩ := hr
  refine ⟨tCons ta tb, fun X hX => pa_cons (ga X hX) (gb X hX) (hs _), fun S H σ I Q fn => ?_⟩
  refine sa S H σ I _ fun x S1 H1 f1 I1 a1 x1 nd1 n1 => sb S1 H1 σ I1 _ fun vs S2 H2 f2 I2 a2 x2 nd2 n2 => ?_
  have up : ∀ b ∈ f1, H2 b = H1 b ∧ S2 b = none ∧ ¬ OwnAt σ sl2 b := fun b m => by
    obtain ⟨u, eu, nu⟩ := x1.dom b m
    obtain ⟨z1, z2, z3, z4⟩ := n1 b m
    exact ⟨(a2.k b u eu (Hard.nt nu) z3).trans eu.symm, a2.notS eu z1, fun z => z3 (a2.w b z)⟩
  refine fn _ S2 H2 (f1 ++ f2) I2 (a1.trans a2) (.cons (x1.ext a2.s fun b m => (up b m).1) x2) ?_ fun b m => ?_
  · refine List.nodup_append.mpr ⟨nd1, nd2, fun b hb b' hb' e => ?_⟩
    subst e
    obtain ⟨u, eu, _⟩ := x1.dom b hb
    have := (n2 b hb').2.2.2
    rw [eu] at this; cases this
  · rcases List.mem_append.mp m with m | m
    · exact ⟨(up b m).2.1, (n1 b m).2.1, (up b m).2.2, (n1 b m).2.2.2⟩
    · exact ⟨(n2 b m).1, (n2 b m).2.1, (n2 b m).2.2.1, a1.new (n2 b m).2.2.2⟩
theorem evp_lst (ha : AVP c B es sl p ts sl1) (hl : ts.length ≤ 1000000 := by exact Nat.le_of_ble_eq_true rfl) : EVP c B (.List es pos) sl p (.lst ts) sl1 := by
  obtain ⟨ta, ga, sa⟩ := ha
  refine ⟨tLst ta, fun X hX => pe_lst (ga X hX), fun S H σ I Q fn => sa S H σ I _ fun vs S1 H1 fp I1 a1 x1 nd n => ⟨by rw [x1.len, sizeLine_eq]; omega, fun l hl => ?_⟩⟩
  obtain ⟨w1, w2, w3⟩ := I1.notIn hl
  have nl : l ∉ fp := fun m => by obtain ⟨u, eu, _⟩ := x1.dom l m; rw [hl] at eu; cases eu
  refine fn _ S1 _ (l :: fp) (I1.laid hl) ((a1.trans (.same (same_new hl) (p := true))).weak fun h => by rw [h]; rfl) (.lst upd_same (x1.ext (.refl _) fun b m => upd_ne fun z => nl (by rw [← z]; exact m))) (List.nodup_cons.mpr ⟨nl, nd⟩) fun b m => ?_
  rcases List.mem_cons.mp m with e | m
  · rw [e]; exact ⟨w1, w2, w3, a1.new hl⟩
  · exact n b m
theorem evp_tup {x1 : Nat} (ha : AVP c B es sl p ts sl1) (hl : ts.length ≤ 1000000 := by exact Nat.le_of_ble_eq_true rfl) : EVP c B (.Tuple es x1 pos) sl p (.tup ts) sl1 := by
  obtain ⟨ta, ga, sa⟩ := ha
  refine ⟨tTup ta, fun X hX => pe_tup (ga X hX), fun S H σ I Q fn => sa S H σ I _ fun vs S1 H1 fp I1 a1 x1 nd n => ⟨by rw [x1.len, sizeLine_eq]; omega, fun l hl => ?_⟩⟩
  obtain ⟨w1, w2, w3⟩ := I1.notIn hl
  have nl : l ∉ fp := fun m => by obtain ⟨u, eu, _⟩ := x1.dom l m; rw [hl] at eu; cases eu
  refine fn _ S1 _ (l :: fp) (I1.laid hl) ((a1.trans (.same (same_new hl) (p := true))).weak fun h => by rw [h]; rfl) (.tup upd_same (x1.ext (.refl _) fun b m => upd_ne fun z => nl (by rw [← z]; exact m))) (List.nodup_cons.mpr ⟨nl, nd⟩) fun b m => ?_
  rcases List.mem_cons.mp m with e | m
  · rw [e]; exact ⟨w1, w2, w3, a1.new hl⟩
  · exact n b m
theorem evp_if {u : Bool} (h : TV c B e sl p u sl1) (h1 : u = true → EVP c B a sl1 q t sl2) (h2 : u = false → EVP c B b sl1 q t sl2) : EVP c B (.IfExp e a b pos) sl (p && q) t sl2 := by
  obtain ⟨te, ge, se⟩ := h
  refine ⟨tIf te (rE c a) (rE c b), fun X hX => pe_ifExp (ge X hX) (pe_rE hX) (pe_rE hX), fun S H σ I Q fn => ?_⟩
  refine se S H σ I _ fun S1 H1 I1 a1 => ?_
  cases u with
  | true =>
    rw [if_pos rfl]
    obtain ⟨r, hr, hs⟩ := h1 rfl
    exact ⟨r, hr, hs S1 H1 σ I1 Q fun v S2 H2 fp I2 a2 x nd n => fn v S2 H2 fp I2 (a1.trans a2) x nd fun b m => ⟨(n b m).1, (n b m).2.1, (n b m).2.2.1, a1.new (n b m).2.2.2⟩⟩
  | false =>
    rw [if_neg Bool.false_ne_true]
    obtain ⟨r, hr, hs⟩ := h2 rfl
    exact ⟨r, hr, hs S1 H1 σ I1 Q fun v S2 H2 fp I2 a2 x nd n => fn v S2 H2 fp I2 (a1.trans a2) x nd fun b m => ⟨(n b m).1, (n b m).2.1, (n b m).2.2.1, a1.new (n b m).2.2.2⟩⟩
/-- a def that gives a new tree -/
theorem evp_callP {α : Type} {pre : α → Prop} {args : α → List Sl} {res : α → Kd} {x : Str} {st : Stmt} {ps : List Str} {lv : Nat} {P : Program} {w : World} {K : PySem.W.Frag} {mg : Str → Option Value} {base : Heap} (v : α) (F : DefOk P w K mg base x st ps lv (Prm K mg (Pure pre args res))) (ha : AV c B (e :: es) sl p ks sl1) (hcs : ArgP ks (args v)) (hp : pre v) (hres : res v = .ft t := by rfl) (hc : DefOk P w K mg base x st ps lv (Prm K mg (Pure pre args res)) → c.Def x st ps lv (Prm c.K c.mg (Pure pre args res)) := by exact fun h => h) (hlv : lv ≤ c.lv := by exact Nat.le_of_ble_eq_true rfl) (hg : c.sc.names.lookup x = some .globalImplicit := by rfl)
    (hdb : (x == ("__debug__" : Str)) = false := by decide) (he : ∀ env, starEach (e :: es) env = (false, eval e env) :: starEach es env := by intro env; rfl) (hpl : ∀ env, (backTo pos (starEach es env)).any (·.1) = false := by intro env; rfl) : EVP c B (.Call (.Name x p1) (e :: es) [] pos) sl p t sl1 := by
  obtain ⟨f, fd, hm, hF, hb, G⟩ := (hc F).ex
  obtain ⟨r, hr, hs⟩ := ha
  refine ⟨fun σ H Q => r σ H fun vs H1 => Prm c.K c.mg (Pure pre args res) vs H1 Q fun cls d H' => c.W cls d σ H', fun X hX => pe_callG (by rw [hX.hP, hX.hw, hX.hK, hX.hm, hX.hb]; exact G) (hX.rm.mono hlv) hX.gu hX.tk (hX.g x hg) (by rw [hX.hm]; exact hm) (by rw [hX.hK]; exact hF.kp) (by rw [hX.hK]; exact hb) (hr X hX) hdb (he _) (hpl _), fun S H σ I Q fn => ?_⟩
  refine hs S H σ I _ fun vs S1 H1 I1 a1 x1 => ⟨S1, [], args v, .ret (res v), args v, ⟨v, hp, rfl, rfl, rfl⟩, hcs.stt I1 x1, fun u S' H' J hv => ?_⟩
  obtain ⟨I2, a2⟩ := back0 I1 J
  rw [hres] at hv
  obtain ⟨fp, tp, nd, n⟩ := hv
  refine fn u S' H' fp I2 ((a1.trans a2).weak fun h => by rw [h]; rfl) tp nd fun b m => ?_
  obtain ⟨z1, z2, _⟩ := n b m
  have z2' : H1 b = none := z2
  obtain ⟨_, h0, na⟩ := I1.notIn z2'
  exact ⟨z1, h0, na, a1.new z2'⟩
theorem evp_callPk {α : Type} {pre : α → Prop} {args : α → List Sl} {res : α → Kd} {x : Str} {st : Stmt} {ps nms : List Str} {lv : Nat} {kws : List Keyword} {ix : List Nat} {P : Program} {w : World} {K : PySem.W.Frag} {mg : Str → Option Value} {base : Heap} (v : α) (F : DefOk P w K mg base x st ps lv (Prm K mg (Pure pre args res))) (kb : KwOk x st ps nms 0 ix) (ha : KV c B kws sl p ks sl1) (hcs : ArgP (pick ks ix) (args v)) (hp : pre v) (hres : res v = .ft t := by rfl) (hc : DefK P w K mg base x st ps lv (Prm K mg (Pure pre args res)) → c.DefK x st ps lv (Prm c.K c.mg (Pure pre args res)) := by exact fun h => h) (hlv : lv ≤ c.lv := by exact Nat.le_of_ble_eq_true rfl) (hg : c.sc.names.lookup x = some .globalImplicit := by rfl)
    (hlk : ks.length = kws.length := by rfl) (hln : kws.length = nms.length := by rfl) (hall : ∀ env, (backToKw pos (keywordEach kws env)).all (·.1.isSome) = true := by intro _; rfl) (hks : ∀ env, (backToKw pos (keywordEach kws env)).filterMap (·.1) = nms := by intro _; rfl)
    (hdb : (x == ("__debug__" : Str)) = false := by decide) (hpl : ∀ env, ((backTo pos (starEach [] env)).any (·.1) || (backToKw pos (keywordEach kws env)).any (·.1.isNone)) = false := by intro _; rfl) : EVP c B (.Call (.Name x p1) [] kws pos) sl p t sl1 := by
  obtain ⟨f, fd, hm, hF, G⟩ := (hc F.toK).ex
  obtain ⟨r, hr, hs⟩ := ha
  refine ⟨fun σ H Q => r σ H fun vs H1 => vs.length = kws.length ∧ Prm c.K c.mg (Pure pre args res) (pick vs ix) H1 Q fun cls d H' => c.W cls d σ H', fun X hX => pe_callGK0 (by rw [hX.hP, hX.hw, hX.hK, hX.hm, hX.hb]; exact G) (hX.rm.mono hlv) hX.gu hX.tk (hX.g x hg) (by rw [hX.hm]; exact hm) (by rw [hX.hK]; exact hF.kp) (by rw [hX.hK]; exact kb.kwb hF) (hr X hX) hln (hall _) (hks _) hdb (hpl _), fun S H σ I Q fn => ?_⟩
  refine hs S H σ I _ fun vs S1 H1 I1 a1 x1 => ⟨by rw [x1.len]; exact hlk, S1, [], args v, .ret (res v), args v, ⟨v, hp, rfl, rfl, rfl⟩, hcs.stt I1 (x1.pick ix), fun u S' H' J hv => ?_⟩
  obtain ⟨I2, a2⟩ := back0 I1 J
  rw [hres] at hv
  obtain ⟨fp, tp, nd, n⟩ := hv
  refine fn u S' H' fp I2 ((a1.trans a2).weak fun h => by rw [h]; rfl) tp nd fun b m => ?_
  obtain ⟨z1, z2, _⟩ := n b m
  have z2' : H1 b = none := z2
  obtain ⟨_, h0, na⟩ := I1.notIn z2'
  exact ⟨z1, h0, na, a1.new z2'⟩
/-- return a new tree -/
theorem go_retE (h : EVP c B e sl p t sl1) (hr : R.rt (.ft t) sl1) : GO c B (.Return (some e) pos :: rest) sl R := by
  obtain ⟨r, ge, hs⟩ := h
  refine go_cons (M := fun _ => False) ⟨tRet r, fun X hX => ps_ret (ge X hX), fun S H σ I D q => ?_⟩ fun _ h => h.elim
  exact hs S H σ I _ fun v S1 H1 fp I1 a1 x1 nd n => q.rt S1 H1 σ sl1 v (.ft t) a1.s I1 ⟨fp, x1, nd, fun b m => ⟨(n b m).1, (n b m).2.1, (n b m).2.2.1⟩⟩ hr
/-- name = a new tree -/
theorem go_setP (i : Nat) {x : Str} (h : EVP c B e sl p t sl1) (h2 : ∀ fp, GO c B rest (sl1.set i (.prv t fp)) R) (hi : (sl1[i]?).isSome = true := by rfl) (hN : c.N[i]? = some x := by rfl) (nd : c.N.Nodup := by assumption) (hx : c.sc.names.lookup x = some .local ∨ c.sc.names.lookup x = some .cell := by first | exact .inl rfl | exact .inr rfl)
    (hsw : ∀ X, InCx c X → swapsWith e (some (.Name x p1)) pos.line X.env = pure false := by intro _ _; rfl) : GO c B (.Assign [.Name x p1] e pos :: rest) sl R := by
  obtain ⟨r, ge, hs⟩ := h
  refine ⟨tSeq (tAsg r (gName i)) (rB c rest), fun X hX => pss_cons (ps_set (by rw [hX.hN]; exact nd) (by rw [hX.hN]; exact hN) (hX.loc hx).1 (ge X hX) (hsw X hX) (hX.loc hx).2) (ps_rB hX), fun S H σ I D q => ?_⟩
  refine hs S H σ I _ fun v S1 H1 fp I1 a1 x1 nd1 n => ?_
  have I2 := I1.put (i := i) (.prv t fp) ⟨v, rfl, x1, nd1, fun b m => ⟨(n b m).1, (n b m).2.1⟩⟩ (fun b m => (n b (fpS_prv.mp m)).2.2.1) hi
  exact (h2 fp).rr S1 H1 _ I2 D (q.up a1.s)
/-- the tree in the slot, read as it is now -/
theorem ev_prv (i : Nat) {x : Str} {fp : List Addr} (hd : sl[i]? = some (.prv t fp) := by rfl) (hN : c.N[i]? = some x := by rfl) (hv : Vis c.sc x := by first | exact .inl rfl | exact .inr (.inl rfl) | exact .inr (.inr rfl))
    (h1 : (x == ("__debug__" : Str)) = false := by decide) (h2 : (x == ("__classdict__" : Str)) = false := by decide) : EV c B (.Name x pos) sl true (.nw t.d) sl :=
  ⟨tVar i, fun X hX => pe_var (by rw [hX.hN]; exact hN) (hX.v x hv) h1 h2, fun S H σ I Q q => by
    obtain ⟨y, hy, v, rfl, tp, nd, n⟩ := I.slot i _ hd
    exact ⟨v, hy, q v S H I .refl (TrP.tr I.sh tp fun _ _ => rfl) trivial⟩⟩
theorem go_frzP (i : Nat) {fp : List Addr} (h : GO c B ss (sl.set i (.val t.d)) R) (hs : sl[i]? = some (.prv t fp) := by rfl) : GO c B ss sl R := by
  refine ⟨rB c ss, fun X hX => ps_rB hX, fun S H σ I D q => ?_⟩
  obtain ⟨S', s1, I'⟩ := I.frzP hs
  exact h.rr S' H σ I' D (q.up s1)
theorem go_forget (i : Nat) (h : GO c B ss (sl.set i .no) R) : GO c B ss sl R :=
  ⟨rB c ss, fun X hX => ps_rB hX, fun S H σ I D q => h.rr S H σ (I.forget i) D q⟩
/-- return the name of a tree of one's own -/
theorem go_retP (i : Nat) {x : Str} {fp : List Addr} (hr : R.rt (.ft t) (sl.set i .no)) (hs : sl[i]? = some (.prv t fp) := by rfl) (hN : c.N[i]? = some x := by rfl) (hv : Vis c.sc x := by first | exact .inl rfl | exact .inr (.inl rfl) | exact .inr (.inr rfl)) (h1 : (x == ("__debug__" : Str)) = false := by decide) (h2 : (x == ("__classdict__" : Str)) = false := by decide) :
    GO c B (.Return (some (.Name x p1)) pos :: rest) sl R := by
  refine go_cons (M := fun _ => False) ⟨tRet (tVar i), fun X hX => ps_ret (pe_var (by rw [hX.hN]; exact hN) (hX.v x hv) h1 h2), fun S H σ I D q => ?_⟩ fun _ h => h.elim
  obtain ⟨y, hy, v, rfl, tp, nd, n⟩ := I.slot i _ hs
  refine ⟨v, hy, q.rt S H σ _ _ (.ft t) (.refl _) (I.forget i) ⟨fp, tp, nd, fun b m => ⟨(n b m).1, (n b m).2, fun ⟨j, y⟩ => ?_⟩⟩ hr⟩
  rcases fpAt_setS y with ⟨h1, f1⟩ | ⟨h1, _, _, f1⟩
  · exact h1 (I.dis j i b f1 ⟨_, _, hs, hy, fpS_prv.mpr m⟩)
  · exact fpS_no f1
/-- a flat thing read out -/
theorem EV.flat (h : EV c B e sl p (.nw d) sl1) (hd : flatD d = true) : EV c B e sl p (.st d) sl1 := by
  obtain ⟨r, hr, hs⟩ := h
  exact ⟨r, hr, fun S H σ I Q q => hs S H σ I Q fun v S' H' I' a x f => q v S' H' I' a (by
    have x' : Tr c.K H' v d := x
    show Tr c.K S' v d
    rw [tr_flat x' hd]
    exact tr_toV hd) trivial⟩
theorem atI_tr {K : PySem.W.Frag} {H : Hp} {xs : List V} {ds : List PyData} {i : Int} {d : PyData} (tr : Trs K H xs ds) (hd : atI ds i = some d) : ∃ v, atI xs i = some v ∧ Tr K H v d := by
  unfold atI at hd ⊢
  obtain ⟨j, hj, hj2⟩ := Option.bind_eq_some_iff.mp hd
  obtain ⟨v, hv, tv⟩ := tr.get hj2
  exact ⟨v, by rw [tr.len, hj]; exact hv, tv⟩
theorem ev_ixW {i : Int} (ha : EV c B a sl p (.nw (.list ds)) sl1) (hb : EV c B b sl1 true (.st (.int i)) sl2) (hd : atI ds i = some d) (hs : PlainIx b := by exact fun _ _ => rfl) : EV c B (.Subscript a b pos) sl p (.nw d) sl2 := by
  obtain ⟨ta, ga, sa⟩ := ha
  obtain ⟨tb, gb, sb⟩ := hb
  refine ⟨tOp (rIxL c.K) ta tb, fun X hX => pe_ix (by rw [← hX.hK]; exact ix_list) (ga X hX) (gb X hX) hs, fun S H σ I Q fn => ?_⟩
  refine sa S H σ I _ fun x S1 H1 I1 a1 x1 _ => sb S1 H1 σ I1 _ fun y S2 H2 I2 a2 y2 _ => ?_
  have x1' : Tr c.K H2 x (.list ds) := Tr.sam (a2.h rfl) x1
  obtain ⟨l, xs, rfl, hq, tr⟩ := tr_lst x1'
  obtain ⟨v, hv, tv⟩ := atI_tr tr hd
  exact ⟨l, xs, i, v, rfl, tr_int y2, hq, hv, fn v S2 H2 I2 ((a1.trans a2).weak fun h => by rw [h]; rfl) tv trivial⟩
theorem ev_ixWT {i : Int} (ha : EV c B a sl p (.nw (.tuple ds)) sl1) (hb : EV c B b sl1 true (.st (.int i)) sl2) (hd : atI ds i = some d) (hs : PlainIx b := by exact fun _ _ => rfl) : EV c B (.Subscript a b pos) sl p (.nw d) sl2 := by
  obtain ⟨ta, ga, sa⟩ := ha
  obtain ⟨tb, gb, sb⟩ := hb
  refine ⟨tOp (rIxT c.K) ta tb, fun X hX => pe_ix (by rw [← hX.hK]; exact ix_tup) (ga X hX) (gb X hX) hs, fun S H σ I Q fn => ?_⟩
  refine sa S H σ I _ fun x S1 H1 I1 a1 x1 _ => sb S1 H1 σ I1 _ fun y S2 H2 I2 a2 y2 _ => ?_
  have x1' : Tr c.K H2 x (.tuple ds) := Tr.sam (a2.h rfl) x1
  obtain ⟨l, xs, rfl, hq, tr⟩ := tr_tup x1'
  obtain ⟨v, hv, tv⟩ := atI_tr tr hd
  exact ⟨l, xs, i, v, rfl, tr_int y2, hq, hv, fn v S2 H2 I2 ((a1.trans a2).weak fun h => by rw [h]; rfl) tv trivial⟩
end
end Mw

/-! NwU: lists that change, further; lists of numbers; trees of one's own that change. -/
namespace Mw
open PySem PySem.Spec L2
variable [Tb]
/-- slot i is the name x -/
structure Nm (c : CxD) (i : Nat) (x : Str) : Prop where
  hN : c.N[i]? = some x
  hv : Vis c.sc x
  h1 : (x == ("__debug__" : Str)) = false
  h2 : (x == ("__classdict__" : Str)) = false
theorem Nm.pe {c : CxD} {i : Nat} {x : Str} {pos : Pos} {X : Cx} (n : Nm c i x) (hX : InCx c X) : PE X (.Name x pos) (tVar i) := pe_var (by rw [hX.hN]; exact n.hN) (hX.v x n.hv) n.h1 n.h2
/-- o.name(e) -/
structure Mc1 (o : Expr) (name : Str) (e : Expr) (p2 p3 : Pos) : Prop where
  base : ∀ env, attributeBase o name env (eval o env) = eval o env
  few : ∀ env, ((backTo p3 (starEach [e] env)).all (fun x => !x.1) && (backToKw p3 (keywordEach [] env)).all (fun x => x.1.isSome) && decide ([e].length + ([] : List Keyword).length + (if ([] : List Keyword).isEmpty then 0 else 1) < 30)) = true
  line : (p2.endLine == p3.line) = true
  st : ∀ env, starEach [e] env = (false, eval e env) :: starEach [] env
/-- o.name() -/
structure Mc0 (o : Expr) (name : Str) (p2 p3 : Pos) : Prop where
  base : ∀ env, attributeBase o name env (eval o env) = eval o env
  line : (p2.endLine == p3.line) = true
section
variable {c : CxD} {B : Bs} {tg e a b elt iter : Expr} {ifs : List Expr} {es : List Expr} {ss rest : List Stmt} {sl sl1 sl2 sl3 : List Sl} {p q z : Bool} {k k1 k2 : Kd} {ks : List Kd} {pos p1 p2 p3 p4 p5 : Pos} {R : Rt} {d : PyData} {ds ds' : List PyData} {s : Sl} {xs ys : List Int} {x y n m : Int} {nm : Str} {scope : Scope}
/-! ### lists of numbers -/
def AVI (c : CxD) (B : Bs) (es : List Expr) (sl : List Sl) (p : Bool) (xs : List Int) (sl' : List Sl) : Prop := AV c B es sl p (xs.map fun i => Kd.st (.int i)) sl'
theorem avi_nil : AVI c B [] sl true [] sl := av_nil
theorem avi_cons (ha : EV c B e sl p (.st (.int x)) sl1) (hr : AVI c B es sl1 q xs sl2) (hs : ∀ env, starEach (e :: es) env = (false, eval e env) :: starEach es env := by intro env; rfl) : AVI c B (e :: es) sl (p && q) (x :: xs) sl2 := av_cons ha hr (by simp [Kd.firm]) hs
theorem sts_ints : ∀ xs : List Int, Sts (xs.map fun i => Kd.st (.int i)) (nums xs)
  | [] => .nil
  | _ :: r => .cons (sts_ints r)
theorem ev_lstN (ha : AVI c B es sl p xs sl1) (hl : xs.length ≤ 1000000 := by exact Nat.le_of_ble_eq_true rfl) : EV c B (.List es pos) sl p (.fr (.lst (nums xs))) sl1 := ev_lst ha (sts_ints xs) (hl := by rw [len_nums]; exact hl)
theorem ev_catN (ha : EV c B a sl p k1 sl1) (hb : EV c B b sl1 true k2 sl2) (hz : xs.length + ys.length ≤ 1000000) (h1 : LsK k1 (nums xs) := by first | exact .st | exact .ls | exact .fr) (h2 : LsK k2 (nums ys) := by first | exact .st | exact .ls | exact .fr) : EV c B (.BinOp a .Add b pos) sl p (.fr (.lst (nums (xs ++ ys)))) sl2 :=
  (ev_cat ha hb h1 h2 (by rw [len_nums, len_nums]; exact hz)).to (by rw [nums_app])
theorem rep_nums (n : Nat) (xs : List Int) : (List.replicate n (nums xs)).flatten = nums (List.replicate n xs).flatten := by
  induction n with
  | zero => rfl
  | succ n ih => rw [List.replicate_succ, List.flatten_cons, ih, List.replicate_succ, List.flatten_cons, nums_app]
theorem ev_repN (ha : EV c B a sl p (.fr (.lst (nums xs))) sl1) (hb : EV c B b sl1 q (.st (.int m)) sl2) (hm : -(2 ^ 63) ≤ m ∧ m < 2 ^ 63) (hz : xs.length * m.toNat ≤ 1000000) : EV c B (.BinOp a .Mult b pos) sl (p && q) (.fr (.lst (nums (List.replicate m.toNat xs).flatten))) sl2 :=
  (ev_rep ha hb hm (by rw [len_nums]; exact hz)).to (by rw [rep_nums])
theorem flat_one (n : Nat) (x : Int) : (List.replicate n [x]).flatten = List.replicate n x := by
  induction n with
  | zero => rfl
  | succ n ih => rw [List.replicate_succ, List.flatten_cons, ih]; rfl
/-- [v] * n -/
theorem ev_rep1 {n : Nat} (ha : EV c B a sl p (.fr (.lst (nums [x]))) sl1) (hb : EV c B b sl1 q (.st (.int (n : Int))) sl2) (hm : n ≤ 1000000) : EV c B (.BinOp a .Mult b pos) sl (p && q) (.fr (.lst (nums (List.replicate n x)))) sl2 :=
  (ev_repN ha hb (by omega) (by simp; omega)).to (by rw [Int.toNat_natCast, flat_one])
theorem cut_last {α : Type} (ds : List α) : cutD ds none (some (-1)) = ds.dropLast := by
  unfold cutD HT.sIx
  simp only [List.dropLast_eq_take, Nat.sub_zero, List.drop_zero]
  rw [if_pos (by decide)]
  congr 1
  omega
/-- xs[:-1] -/
theorem ev_sliceLast {j : Nat} (ha : EV c B a sl p k1 sl1) (hl : LsK k1 (nums xs) := by first | exact .st | exact .ls | exact .fr) : EV c B (.Subscript a (.Slice none (some (.UnaryOp .USub (.Constant (.int 1) j p1) p2)) none p3) pos) sl p (.fr (.lst (nums xs.dropLast))) sl1 :=
  (ev_slice ha so_none (so_some (i := -1) (ev_neg ev_int)) hl).to (by rw [cut_last]; unfold nums; rw [List.map_dropLast])
/-- xs.index(y) -/
theorem ev_index {j : Nat} (ha : EV c B a sl p k1 sl1) (hb : EV c B b sl1 true (.st (.int y)) sl2) (hj : xs[j]? = some y) (hno : ∀ m : Nat, m < j → xs[m]? ≠ some y) (hl : LsK k1 (nums xs) := by first | exact .st | exact .ls | exact .fr) (mc : Mc1 a "index" b p2 p3 := by exact ⟨fun _ => rfl, fun _ => rfl, rfl, fun _ => rfl⟩) : EV c B (.Call (.Attribute a "index" p2) [b] [] p3) sl p (.st (.int (j : Nat))) sl2 := by
  obtain ⟨ta, ga, sa⟩ := ha
  obtain ⟨tb, gb, sb⟩ := av_cons hb (av_nil (sl := sl2)) rfl mc.st
  refine ⟨tBM c.K "list" (rIndex c.K) ta tb, fun X hX => by have := pe_bm PySem.F.plainAttrs_list PySem.F.slot_list_index PySem.F.type_list_index mt_index (ga X hX) (gb X hX) (mc.base _) (mc.few _) mc.line (mc.st _) (by rfl); rw [hX.hK] at this; exact this, fun S H σ I Q fn => ?_⟩
  refine sa S H σ I _ fun v S1 H1 I1 a1 x1 _ => ?_
  obtain ⟨l, vs, rfl, hq, t⟩ := hl.rd I1 x1
  refine ⟨.inl ⟨rfl, vs, hq⟩, sb S1 H1 σ I1 _ fun ws S2 H2 I2 a2 x2 => ?_⟩
  obtain ⟨w, rfl, hw⟩ := one_arg x2
  cases tr_int hw
  have hq2 := (a2.h rfl).seq hq
  cases trs_nums_eq t
  have at_ : ∀ (m : Nat) (z : V), (xs.map V.int)[m]? = some z → ∃ u, xs[m]? = some u ∧ z = .int u := fun m z e => by
    rw [List.getElem?_map] at e
    obtain ⟨u, hu, e⟩ := Option.map_eq_some_iff.mp e
    exact ⟨u, hu, e.symm⟩
  refine ⟨l, xs.map V.int, .int y, j, .int y, rfl, rfl, hq2, rfl, by simp [flatV], by rw [List.getElem?_map, hj]; rfl, by simp [eqV], fun m z hm e => ?_, fn _ S2 H2 I2 ((a1.trans a2).weak fun h => by rw [h]; rfl) (.int _) trivial⟩
  obtain ⟨u, hu, rfl⟩ := at_ m z e
  have : u ≠ y := fun e2 => hno m hm (by rw [hu, e2])
  simp [eqV, this]
/-- xs.count(y) -/
theorem ev_count (ha : EV c B a sl p k1 sl1) (hb : EV c B b sl1 true (.st (.int y)) sl2) (hl : LsK k1 (nums xs) := by first | exact .st | exact .ls | exact .fr) (mc : Mc1 a "count" b p2 p3 := by exact ⟨fun _ => rfl, fun _ => rfl, rfl, fun _ => rfl⟩) : EV c B (.Call (.Attribute a "count" p2) [b] [] p3) sl p (.st (.int (xs.count y : Nat))) sl2 := by
  obtain ⟨ta, ga, sa⟩ := ha
  obtain ⟨tb, gb, sb⟩ := av_cons hb (av_nil (sl := sl2)) rfl mc.st
  refine ⟨tBM c.K "list" (rCntI c.K) ta tb, fun X hX => by have := pe_bm PySem.F.plainAttrs_list PySem.F.slot_list_count PySem.F.type_list_count mt_lcount (ga X hX) (gb X hX) (mc.base _) (mc.few _) mc.line (mc.st _) (by rfl); rw [hX.hK] at this; exact this, fun S H σ I Q fn => ?_⟩
  refine sa S H σ I _ fun v S1 H1 I1 a1 x1 _ => ?_
  obtain ⟨l, vs, rfl, hq, t⟩ := hl.rd I1 x1
  refine ⟨.inl ⟨rfl, vs, hq⟩, sb S1 H1 σ I1 _ fun ws S2 H2 I2 a2 x2 => ?_⟩
  obtain ⟨w, rfl, hw⟩ := one_arg x2
  cases tr_int hw
  have hq2 := (a2.h rfl).seq hq
  cases trs_nums_eq t
  exact ⟨l, xs, y, rfl, rfl, hq2, fn _ S2 H2 I2 ((a1.trans a2).weak fun h => by rw [h]; rfl) (.int _) trivial⟩
/-- x.remove(e) -/
theorem go_remove (i : Nat) {j : Nat} (ha : EV c B e sl true (.st (.int y)) sl) (hj : xs[j]? = some y) (hno : ∀ m : Nat, m < j → xs[m]? ≠ some y) (h3 : GO c B rest (sl.set i (s.put (.lst (nums (xs.eraseIdx j))))) R) (hs : sl[i]? = some s := by rfl) (ho : s.ow = some (.lst (nums xs)) := by rfl) (n : Nm c i nm := by exact ⟨rfl, by first | exact .inl rfl | exact .inr (.inl rfl) | exact .inr (.inr rfl), by decide, by decide⟩) (mc : Mc1 (.Name nm p1) "remove" e p2 p3 := by exact ⟨fun _ => rfl, fun _ => rfl, rfl, fun _ => rfl⟩) :
    GO c B (.Expr (.Call (.Attribute (.Name nm p1) "remove" p2) [e] [] p3) pos :: rest) sl R :=
  go_expr (ev_mut (ks := [.st (.int y)]) (ds' := nums (xs.eraseIdx j)) (d := .none) i PySem.F.plainAttrs_list PySem.F.slot_list_remove PySem.F.type_list_remove (fun _ _ => mt_remove) (av_cons ha av_nil rfl mc.st) (fun B σ S H l vs zs I hk hx tx Q q => by
    obtain ⟨v, rfl, hv⟩ := one_arg hk
    cases tr_int hv
    cases trs_nums_eq tx
    exact ⟨l, xs, y, j, rfl, rfl, hx, hj, hno, q _ _ .non (trs_nums _)⟩) hs ho n.hN n.hv n.h1 n.h2 mc.base mc.few mc.line mc.st (fun _ => rfl)) h3 (fun _ => rfl)
/-- x.pop() -/
theorem ev_pop (i : Nat) {y : Int} (hy : xs[xs.length - 1]? = some y) (hs : sl[i]? = some s := by rfl) (ho : s.ow = some (.lst (nums xs)) := by rfl) (n : Nm c i nm := by exact ⟨rfl, by first | exact .inl rfl | exact .inr (.inl rfl) | exact .inr (.inr rfl), by decide, by decide⟩) (mc : Mc0 (.Name nm p1) "pop" p2 p3 := by exact ⟨fun _ => rfl, rfl⟩) :
    EV c B (.Call (.Attribute (.Name nm p1) "pop" p2) [] [] p3) sl false (.st (.int y)) (sl.set i (s.put (.lst (nums xs.dropLast)))) := by
  refine ⟨tBM0 c.K "list" rPop (tVar i), fun X hX => by have := pe_bm0 PySem.F.plainAttrs_list PySem.F.slot_list_pop PySem.F.type_list_pop mt_pop (n.pe hX) (mc.base _) mc.line; rw [hX.hK] at this; exact this, fun S H σ I Q fn => ?_⟩
  obtain ⟨l, el, nl, zs, hz, tz⟩ := I.own hs ho
  cases trs_nums_eq tz
  refine ⟨.ref l, el, .inl ⟨rfl, _, .inl (.inl hz)⟩, l, xs.map V.int, .int y, rfl, rfl, hz, by rw [List.length_map, List.getElem?_map, hy]; rfl, ?_⟩
  have I2 := I.mutate (u := .lst (xs.map V.int).dropLast) hs ho (put_ow (o' := .lst (nums xs.dropLast)) ho) put_kind el ⟨_, upd_same, by rw [← List.map_dropLast]; exact trs_nums _⟩
  exact fn _ S _ I2 (mut_adv I hs ho el) (.int y) trivial
/-! ### comprehensions over numbers -/
theorem fm_nums {g : Int → Option Int} {f : PyData → Option PyData} (h : ∀ x, f (.int x) = (g x).map .int) : ∀ xs : List Int, (nums xs).filterMap f = nums (xs.filterMap g)
  | [] => rfl
  | x :: r => by
    have ih := fm_nums h r
    show List.filterMap f (.int x :: nums r) = nums (List.filterMap g (x :: r))
    cases e : g x with
    | none => rw [List.filterMap_cons_none (by rw [h, e]; rfl), ih, List.filterMap_cons_none e]
    | some y => rw [List.filterMap_cons_some (b := .int y) (by rw [h, e]; rfl), ih, List.filterMap_cons_some e]; rfl
def liftI (g : Int → Option Int) : PyData → Option PyData
  | .int x => (g x).map .int
  | _ => none
/-- [f(x) for x in xs if ..], the own slot j -/
theorem evN_comp {nm : Str} {tp : Pos} (j : Nat) (g : Int → Option Int) (hi : EI c B (.Name nm tp) iter sl p (nums xs) z sl1)
    (hs : ∀ (i : Nat) (x : Int), xs[i]? = some x → ∃ b, TVs (c.blk scope) B ifs ((sl1.set j .no).set j (.val (.int x))) b ∧ (b = true → ∃ y, g x = some y ∧ EV (c.blk scope) B elt ((sl1.set j .no).set j (.val (.int x))) true (.st (.int y)) ((sl1.set j .no).set j (.val (.int x)))) ∧ (b = false → g x = none))
    (hl : xs.length ≤ 1000000) (hg : GT (c.blk scope) B (.Name nm tp) (.none) [j] (sl1.set j .no) ((sl1.set j .no).set j (.val .none)) := by exact gt_name _) (hg2 : ∀ d, GT (c.blk scope) B (.Name nm tp) d [j] (sl1.set j .no) ((sl1.set j .no).set j (.val d)) := by intro d; exact gt_name _)
    (ok : blkC c.N c.sc scope [(nm, j)] = true := by (try dsimp only [CxD.blk]); decide +kernel) (nd : c.N.Nodup := by assumption) (hf : ∀ env x, foldedSetIterable iter env x = pure x := by intro _ _; rfl) : EV c B (.ListComp elt [⟨.Name nm tp, iter, ifs, 0⟩] scope pos) sl p (.fr (.lst (nums (xs.filterMap g)))) sl1 :=
  (ev_comp [(nm, j)] (liftI g) hi (fun i d hd => by
    obtain ⟨x, hx, rfl⟩ := nums_get hd
    obtain ⟨b, h1, h2, h3⟩ := hs i x hx
    refine ⟨_, _, b, hg2 _, by simp, h1, fun hb => ?_, fun hb => ?_⟩
    · obtain ⟨y, hy, ev⟩ := h2 hb
      exact ⟨.int y, by show (g x).map _ = _; rw [hy]; rfl, ev⟩
    · show (g x).map _ = _; rw [h3 hb]; rfl) (by rw [len_nums]; exact hl) ok nd hf).to (by rw [fm_nums (g := g) fun x => rfl])
end
end Mw

/-! NwV: trees of one's own that change, that are taken apart. -/
namespace Mw
open PySem PySem.Spec L2
variable [Tb]
theorem trp_ls {K : PySem.W.Frag} {S H : Hp} {fp : List Addr} {v : V} {ds : List PyData} (h : TrP K S H fp v (.ls ds)) : ∃ l xs, v = .ref l ∧ fp = [l] ∧ H l = some (.lst xs) ∧ Trs K S xs ds := by
  cases h with
  | ls h t => exact ⟨_, _, rfl, rfl, h, t⟩
theorem trp_lst {K : PySem.W.Frag} {S H : Hp} {fp : List Addr} {v : V} {ts : List PTr} (h : TrP K S H fp v (.lst ts)) : ∃ l xs f, v = .ref l ∧ fp = l :: f ∧ H l = some (.lst xs) ∧ TrPs K S H f xs ts := by
  cases h with
  | lst h t => exact ⟨_, _, _, rfl, rfl, h, t⟩
theorem trp_tup {K : PySem.W.Frag} {S H : Hp} {fp : List Addr} {v : V} {ts : List PTr} (h : TrP K S H fp v (.tup ts)) : ∃ l xs f, v = .ref l ∧ fp = l :: f ∧ H l = some (.tup xs) ∧ TrPs K S H f xs ts := by
  cases h with
  | tup h t => exact ⟨_, _, _, rfl, rfl, h, t⟩
theorem trp_st {K : PySem.W.Frag} {S H : Hp} {fp : List Addr} {v : V} {d : PyData} (h : TrP K S H fp v (.st d)) : fp = [] ∧ Tr K S v d := by
  cases h with
  | st h => exact ⟨rfl, h⟩
section
variable {c : CxD} {B : Bs} {tg e a b : Expr} {es : List Expr} {ss rest ba : List Stmt} {sl sl1 sl2 sl3 : List Sl} {p q : Bool} {k k1 k2 : Kd} {pos p1 p2 p3 p4 p5 : Pos} {R : Rt} {d : PyData} {ds ds' : List PyData} {t t1 t2 t3 : PTr} {ts : List PTr} {i : Nat} {nm : Str} {fp : List Addr}
theorem Stt.prv {K : PySem.W.Frag} {S H : Hp} {σ : L2.St} (I : Stt K B S H σ sl) (h : sl[i]? = some (.prv t fp)) : ∃ v, σ[i]? = some (some v) ∧ TrP K S H fp v t ∧ fp.Nodup ∧ ∀ a ∈ fp, S a = none ∧ B.H0 a = none := by
  obtain ⟨x, hx, v, rfl, r⟩ := I.slot i _ h
  exact ⟨v, hx, r⟩
theorem Stt.prvW {K : PySem.W.Frag} {S H : Hp} {σ : L2.St} {l : Addr} {u : HO} {v : V} {t' : PTr} {fp' : List Addr} (I : Stt K B S H σ sl) (h : sl[i]? = some (.prv t fp)) (hv : σ[i]? = some (some v)) (hl : l ∈ fp) (hn : ∀ a ∈ fp', a ∈ fp ∨ (S a = none ∧ B.H0 a = none ∧ ¬ OwnAt σ sl a)) (tr : TrP K S (upd H l u) fp' v t') (nd : fp'.Nodup) : Stt K B S (upd H l u) σ (sl.set i (.prv t' fp')) := by
  obtain ⟨v', hv', _, _, n⟩ := I.prv h
  rw [hv] at hv'
  cases hv'
  exact I.write h hv (fpS_prv.mpr hl) (fun a m => (hn a (fpS_prv.mp m)).elim (fun z => .inl (fpS_prv.mpr z)) fun z => .inr z.2.2) ⟨v, rfl, tr, nd, fun a m => (hn a m).elim (n a) fun z => ⟨z.1, z.2.1⟩⟩ (.inl (n l hl).2)
/-- x.append(e), a list of what stays -/
theorem go_appLs (i : Nat) (ha : EV c B e sl true (.st d) sl) (h : GO c B rest (sl.set i (.prv (.ls (ds ++ [d])) fp)) R) (hl : ds.length ≤ 1000000 := by first | omega | (simp only [len_nums, List.length_append, List.length_map, List.length_cons, List.length_nil]; omega)) (hs : sl[i]? = some (.prv (.ls ds) fp) := by rfl) (n : Nm c i nm := by exact ⟨rfl, by first | exact .inl rfl | exact .inr (.inl rfl) | exact .inr (.inr rfl), by decide, by decide⟩) (mc : Mc1 (.Name nm p1) "append" e p2 p3 := by exact ⟨fun _ => rfl, fun _ => rfl, rfl, fun _ => rfl⟩) :
    GO c B (.Expr (.Call (.Attribute (.Name nm p1) "append" p2) [e] [] p3) pos :: rest) sl R := by
  obtain ⟨tb, gb, sb⟩ := av_cons ha (av_nil (sl := sl)) rfl mc.st
  refine ⟨tSeq (tDrop (tBM c.K "list" rAppend (tVar i) tb)) (rB c rest), fun X hX => pss_cons (ps_expr (by have := pe_bm PySem.F.plainAttrs_list PySem.F.slot_list_append PySem.F.type_list_append mt_append (n.pe hX) (gb X hX) (mc.base _) (mc.few _) mc.line (mc.st _) (by rfl); rw [hX.hK] at this; exact this) (by rfl)) (ps_rB hX), fun S H σ I D q => ?_⟩
  obtain ⟨v, hv, tp, nd, n0⟩ := I.prv hs
  obtain ⟨l, xs, rfl, rfl, e0, t0⟩ := trp_ls tp
  refine ⟨.ref l, hv, .inl ⟨rfl, xs, .inl (.inl e0)⟩, sb S H σ I _ fun ws S2 H2 I2 a2 x2 => ?_⟩
  obtain ⟨w, rfl, hw⟩ := one_arg x2
  obtain ⟨v2, hv2, tp2, _, _⟩ := I2.prv hs
  rw [hv] at hv2
  cases hv2
  obtain ⟨l2, xs2, e2, e3, e4, t4⟩ := trp_ls tp2
  cases e2
  refine ⟨l, xs2, w, rfl, rfl, e4, by rw [t4.len, sizeLine_eq]; omega, ?_⟩
  exact h.rr S2 _ σ (I2.prvW hs hv (by simp) (fun a m => .inl m) (.ls upd_same (t4.app (.one hw))) (by simp)) D (q.up a2.s)
/-- x[n].append(e) -/
theorem go_appAt (i n : Nat) (hb : EV c B b sl true (.st (.int (n : Nat))) sl) (hn : ts[n]? = some (.ls ds)) (ha : EV c B e sl true (.st d) sl) (h : GO c B rest (sl.set i (.prv (.lst (ts.set n (.ls (ds ++ [d])))) fp)) R) (hl : ds.length ≤ 1000000 := by first | omega | (simp only [len_nums, List.length_append, List.length_map, List.length_cons, List.length_nil]; omega)) (hs : sl[i]? = some (.prv (.lst ts) fp) := by rfl) (nmx : Nm c i nm := by exact ⟨rfl, by first | exact .inl rfl | exact .inr (.inl rfl) | exact .inr (.inr rfl), by decide, by decide⟩) (hpx : PlainIx b := by exact fun _ _ => rfl) (mc : Mc1 (.Subscript (.Name nm p1) b p4) "append" e p2 p3 := by exact ⟨fun _ => rfl, fun _ => rfl, rfl, fun _ => rfl⟩) :
    GO c B (.Expr (.Call (.Attribute (.Subscript (.Name nm p1) b p4) "append" p2) [e] [] p3) pos :: rest) sl R := by
  obtain ⟨tx, gx, sx⟩ := hb
  obtain ⟨tb, gb, sb⟩ := av_cons ha (av_nil (sl := sl)) rfl mc.st
  refine ⟨tSeq (tDrop (tBM c.K "list" rAppend (tOp (rIxL c.K) (tVar i) tx) tb)) (rB c rest), fun X hX => pss_cons (ps_expr (by have := pe_bm PySem.F.plainAttrs_list PySem.F.slot_list_append PySem.F.type_list_append mt_append (pe_ix (pos := p4) ix_list (nmx.pe (pos := p1) hX) (gx X hX) hpx) (gb X hX) (mc.base _) (mc.few _) mc.line (mc.st _) (by rfl); rw [hX.hK] at this; exact this) (by rfl)) (ps_rB hX), fun S H σ I D q => ?_⟩
  obtain ⟨v, hv, _, _, _⟩ := I.prv hs
  refine ⟨v, hv, sx S H σ I _ fun w S1 H1 I1 a1 x1 _ => ?_⟩
  obtain ⟨v1, hv1, tp1, nd1, n1⟩ := I1.prv hs
  rw [hv] at hv1
  cases hv1
  obtain ⟨l, xs, f, rfl, rfl, e0, t0⟩ := trp_lst tp1
  obtain ⟨y, hy⟩ : ∃ y, xs[n]? = some y := by
    have := (List.getElem?_eq_some_iff.mp hn).1
    exact ⟨_, List.getElem?_eq_getElem (by rw [t0.len]; exact this)⟩
  refine ⟨l, xs, (n : Nat), y, rfl, tr_int x1, .inl (.inl e0), atI_nat hy, ?_⟩
  obtain ⟨g0, g, g1, eg, tg, _⟩ := t0.split n hy hn
  obtain ⟨m, zs, rfl, rfl, em, tm⟩ := trp_ls tg
  refine ⟨.inl ⟨rfl, zs, .inl (.inl em)⟩, sb S1 H1 σ I1 _ fun ws S2 H2 I2 a2 x2 => ?_⟩
  obtain ⟨w2, rfl, hw⟩ := one_arg x2
  obtain ⟨v2, hv2, tp2, nd2, n2⟩ := I2.prv hs
  rw [hv] at hv2
  cases hv2
  obtain ⟨l2, xs2, f2, e2, e3, e4, t4⟩ := trp_lst tp2
  cases e2
  obtain ⟨-, rfl⟩ := List.cons.inj e3
  have e5 := a2.h rfl |>.st _ _ e0 (fun ps z => nomatch z)
  rw [e4] at e5
  cases e5
  obtain ⟨k0, k, k1', ek, tk, kk⟩ := t4.split n hy hn
  obtain ⟨m2, zs2, e6, rfl, em2, tm2⟩ := trp_ls tk
  cases e6
  have hm : m ∈ f := by rw [ek]; simp
  have hlm : l ≠ m := fun z => (List.nodup_cons.mp nd2).1 (by rw [z]; exact hm)
  refine ⟨m, zs2, w2, rfl, rfl, em2, by rw [tm2.len, sizeLine_eq]; omega, ?_⟩
  have nd3 := (List.nodup_cons.mp nd2).2
  rw [ek] at nd3
  have nk0 : ∀ a ∈ k0, a ≠ m := fun a ha z => (List.nodup_append.mp nd3).2.2 a ha m (by simp) z
  have nk1 : ∀ a ∈ k1', a ≠ m := fun a ha z => by
    have := (List.nodup_append.mp nd3).2.1
    rw [List.singleton_append, List.nodup_cons] at this
    exact this.1 (by rw [← z]; exact ha)
  have tr2 := kk S2 (upd H2 m (.lst (zs2 ++ [w2]))) [m] (.ls (ds ++ [d])) (.refl _) (.ls upd_same (tm2.app (.one hw))) (fun a ha => upd_ne (nk0 a ha)) (fun a ha => upd_ne (nk1 a ha))
  exact h.rr S2 _ σ (I2.prvW hs hv (List.mem_cons_of_mem _ hm) (fun a m => .inl m) (.lst (by rw [upd_ne hlm]; exact e4) (by rw [ek]; exact tr2)) nd2) D (q.up (a1.s.trans a2.s))
/-! ### a part of a tree of one's own -/
def EVM (c : CxD) (B : Bs) (e : Expr) (sl : List Sl) (i : Nat) (t : PTr) : Prop :=
  ∃ r, (∀ X, InCx c X → PE X e r) ∧ ∀ S H σ, Stt c.K B S H σ sl → ∀ Q : VK, (∀ v S' H' f, Stt c.K B S' H' σ sl → Adv σ sl S H sl S' H' true → TrP c.K S' H' f v t → f.Nodup → (∀ a ∈ f, S' a = none ∧ B.H0 a = none ∧ FpAt σ sl i a) → Q v H') → r σ H Q
theorem evm_name (i : Nat) (hs : sl[i]? = some (.prv t fp) := by rfl) (n : Nm c i nm := by exact ⟨rfl, by first | exact .inl rfl | exact .inr (.inl rfl) | exact .inr (.inr rfl), by decide, by decide⟩) : EVM c B (.Name nm pos) sl i t :=
  ⟨tVar i, fun X hX => n.pe hX, fun S H σ I Q q => by
    obtain ⟨v, hv, tp, nd, n0⟩ := I.prv hs
    exact ⟨v, hv, q v S H fp I .refl tp nd fun a m => ⟨(n0 a m).1, (n0 a m).2, _, _, hs, hv, fpS_prv.mpr m⟩⟩⟩
theorem evm_ix (n : Nat) (h : EVM c B a sl i (.lst ts)) (hb : EV c B b sl true (.st (.int (n : Nat))) sl) (hn : ts[n]? = some t) (hpx : PlainIx b := by exact fun _ _ => rfl) : EVM c B (.Subscript a b pos) sl i t := by
  obtain ⟨ta, ga, sa⟩ := h
  obtain ⟨tx, gx, sx⟩ := hb
  refine ⟨tOp (rIxL c.K) ta tx, fun X hX => pe_ix (by rw [← hX.hK]; exact ix_list) (ga X hX) (gx X hX) hpx, fun S H σ I Q fn => ?_⟩
  refine sa S H σ I _ fun v S1 H1 f I1 a1 tp nd n1 => sx S1 H1 σ I1 _ fun w S2 H2 I2 a2 x2 _ => ?_
  have ag : ∀ a ∈ f, H2 a = H1 a := fun a m => by
    obtain ⟨u, eu, nu⟩ := tp.dom a m
    exact ((a2.h rfl).st _ _ eu (Hard.nt nu)).trans eu.symm
  have tp2 := tp.ext a2.s ag
  obtain ⟨l, xs, f0, rfl, rfl, e0, t0⟩ := trp_lst tp2
  obtain ⟨y, hy⟩ : ∃ y, xs[n]? = some y := by
    have := (List.getElem?_eq_some_iff.mp hn).1
    exact ⟨_, List.getElem?_eq_getElem (by rw [t0.len]; exact this)⟩
  refine ⟨l, xs, (n : Nat), y, rfl, tr_int x2, .inl (.inl e0), atI_nat hy, ?_⟩
  obtain ⟨g0, g, g1, eg, tg, _⟩ := t0.split n hy hn
  have sub : ∀ a ∈ g, a ∈ l :: f0 := fun a m => List.mem_cons_of_mem _ (by rw [eg]; simp [m])
  refine fn y S2 H2 g I2 (a1.trans a2) tg ?_ fun a m => ?_
  · have := (List.nodup_cons.mp nd).2
    rw [eg] at this
    exact (List.nodup_append.mp (List.nodup_append.mp this).2.1).1
  · obtain ⟨z1, z2, z3⟩ := n1 a (sub a m)
    obtain ⟨u, eu, _⟩ := tp.dom a (sub a m)
    exact ⟨a2.notS eu z1, z2, z3⟩
/-- a, b = a part; the tree is given up -/
theorem go_unp2 (i j1 j2 : Nat) {x y : Str} {kt : Nat} {pt px py : Pos} (h : EVM c B e sl i (.tup [t1, t2])) (h2 : ∀ f1 f2, GO c B rest (((sl.set i .no).set j1 (.prv t1 f1)).set j2 (.prv t2 f2)) R) (hj : j1 ≠ j2 := by decide) (hi1 : ((sl.set i .no)[j1]?).isSome = true := by rfl) (hi2 : (((sl.set i .no).set j1 .no)[j2]?).isSome = true := by rfl) (hN : c.N[j1]? = some x := by rfl) (hN2 : c.N[j2]? = some y := by rfl) (nd : c.N.Nodup := by assumption) (hx : c.sc.names.lookup x = some .local ∨ c.sc.names.lookup x = some .cell := by first | exact .inl rfl | exact .inr rfl) (hy : c.sc.names.lookup y = some .local ∨ c.sc.names.lookup y = some .cell := by first | exact .inl rfl | exact .inr rfl)
    (hs : ∀ env, swapsWithSole [.Tuple [.Name x px, .Name y py] kt pt] e pos.line env = pure false := by intro _; rfl) (hw : ∀ env, swappedStores [.Tuple [.Name x px, .Name y py] kt pt] e env = pure none := by intro _; rfl) (ht : ∀ env, (assignEach [.Tuple [.Name x px, .Name y py] kt pt] env).map (·.2) = [assign (.Tuple [.Name x px, .Name y py] kt pt) env] := by intro _; rfl)
    (hn : ∀ env, (assignEach [.Name x px, .Name y py] env).length = 2 := by intro _; rfl) (hst : ∀ env, (assignEach [.Name x px, .Name y py] env).findIdx? (·.1) = none := by intro _; rfl) (hs1 : ∀ env, (assignEach [.Name x px, .Name y py] env).map (·.2) = assign (.Name x px) env :: (assignEach [.Name y py] env).map (·.2) := by intro _; rfl) (hs2 : ∀ env, (assignEach [.Name y py] env).map (·.2) = assign (.Name y py) env :: (assignEach [] env).map (·.2) := by intro _; rfl) :
    GO c B (.Assign [.Tuple [.Name x px, .Name y py] kt pt] e pos :: rest) sl R := by
  obtain ⟨r, ge, se⟩ := h
  refine ⟨tSeq (tAsg r (gTup c.K 2 (gCons (gName j1) (gCons (gName j2) gNil)))) (rB c rest), fun X hX => pss_cons (ps_asg (ge X hX) (by have := pg_tup (X := X) (k := kt) (pos := pt) hX.calm (pgs_cons (pg_name (pos := px) (by rw [hX.hN]; exact nd) (by rw [hX.hN]; exact hN) (hX.loc hx).1 (hX.loc hx).2) (pgs_cons (pg_name (pos := py) (by rw [hX.hN]; exact nd) (by rw [hX.hN]; exact hN2) (hX.loc hy).1 (hX.loc hy).2) pgs_nil (hs2 _)) (hs1 _)) (hn _) (hst _); rw [hX.hK] at this; exact this) (hs _) (hw _) (ht _)) (ps_rB hX), fun S H σ I D q => ?_⟩
  refine se S H σ I _ fun v S1 H1 f I1 a1 tp nd1 n1 => ?_
  obtain ⟨l, xs, f0, rfl, rfl, e0, t0⟩ := trp_tup tp
  cases t0 with
  | @cons v1 _ _ _ g1 _ tr1 t0 =>
    cases t0 with
    | @cons v2 _ _ _ g2 _ tr2 t0 =>
      cases t0
      refine ⟨l, _, rfl, .inl (.inl e0), rfl, v1, _, rfl, v2, _, rfl, ?_⟩
      have nd2 := (List.nodup_cons.mp nd1).2
      rw [List.append_nil] at nd2 n1
      obtain ⟨d1, d2, d3⟩ := List.nodup_append.mp nd2
      have off : ∀ a, a ∈ g1 ∨ a ∈ g2 → ¬ OwnAt σ (sl.set i .no) a := fun a m ⟨j, y⟩ => by
        rcases fpAt_setS y with ⟨h1, f1⟩ | ⟨h1, _, _, f1⟩
        · exact h1 (I1.dis j i a f1 (n1 a (List.mem_cons_of_mem _ (List.mem_append.mpr m))).2.2)
        · exact fpS_no f1
      have J1 := (I1.forget i).put (i := j1) (v := v1) (.prv t1 g1) ⟨v1, rfl, tr1, d1, fun a m => ⟨(n1 a (by simp [m])).1, (n1 a (by simp [m])).2.1⟩⟩ (fun a m => off a (.inl (fpS_prv.mp m))) hi1
      have J2 := J1.put (i := j2) (v := v2) (.prv t2 g2) ⟨v2, rfl, tr2, d2, fun a m => ⟨(n1 a (by simp [m])).1, (n1 a (by simp [m])).2.1⟩⟩ (fun a m z => by
        have m := fpS_prv.mp m
        rcases ownAt_set z with z | z
        · exact off a (.inr m) z
        · exact d3 a (fpS_prv.mp z) a m rfl) (by
          have : j2 ≠ j1 := Ne.symm hj
          rw [List.getElem?_set_ne hj] at hi2
          rw [List.getElem?_set_ne hj]
          exact hi2)
      exact ⟨rfl, (h2 g1 g2).rr S1 H1 _ J2 D (q.up a1.s)⟩
end
end Mw

/-! NwW: exceptions of the program's own: made, raised. -/
namespace Mw
open PySem PySem.Spec L2 PySem.HandSPX
/-! ### a class over ValueError, its __init__ stores its one argument -/
def xiA (f : Str) (p1 p2 : Pos) : Arguments := { posonlyargs := [], args := [{ arg := "self", annotation := none, pos := p1 }, { arg := f, annotation := none, pos := p2 }], vararg := none, kwonlyargs := [], kw_defaults := [], kwarg := none, defaults := [] }
def xiB (f : Str) (q1 q2 q3 q4 : Pos) : List Stmt := [.Assign [.Attribute (.Name "self" q1) f q2] (.Name f q3) q4]
def xiS (f : Str) : Scope := { kind := .function, names := [(PySem.Str.ofString "self", .local), (f, .local)], isGenerator := false, isCoroutine := false, more := [] }
structure XCls (K : PySem.W.Frag) (mg : Str → Option Value) (cn f : Str) (C : Addr) : Prop where
  gC : mg cn = some (.ref C)
  cls : ∃ nm q N bs bm sn sub ab col dd k0 k1 k2 k3 k5, K.lookup C = some (excClassObj nm q C N bs bm true sn sub ab col dd k0 k1 k2 k3 k5 "ValueError.__new__") ∧ refsVE bm = true
  sa : PySem.W.findIn K (.ref C) "__setattr__" = some (some (.builtin "object.__setattr__"))
  noN : PySem.W.findIn K (.ref C) f = some none
  kC : PySem.W.keepIn K (.ref C) = true
  tyC : PySem.W.typeIn K (.ref C) = some (.type "type")
  x : ExcC K C
  ini : ∃ fI : Addr, PySem.W.findIn K (.ref C) "__init__" = some (some (.ref fI)) ∧ PySem.W.typeIn K (.ref fI) = some (.type "function") ∧
    ∃ (oc : Value) (od : Option Addr) (doc pm : Value) (an : Option Addr) (cdv ct : Value) (osl : Array (Option Value)) (p1 p2 q1 q2 q3 q4 : Pos) (qi : Str),
      K.lookup fI = some ⟨oc, od, .func (PySem.W.fnOf "__init__" qi (xiA f p1 p2) (xiB f q1 q2 q3 q4) (xiS f) .none .none doc pm an cdv ct), osl⟩ ∧ PySem.W.codeIn K cdv qi = true
/-- what is reckoned of a field's name -/
structure XF (f : Str) : Prop where
  ne : f ≠ "self"
  db : (f == ("__debug__" : Str)) = false
  bnd : ∀ (qi : Str) (p1 p2 q1 q2 q3 q4 : Pos) (doc pm : Value) (an : Option Addr) (cdv ct a b : Value), bindArgs (PySem.W.fnOf "__init__" qi (xiA f p1 p2) (xiB f q1 q2 q3 q4) (xiS f) .none .none doc pm an cdv ct) ⟨[a, b], []⟩ = pure [(("self" : Str), a), (f, b)]
  kind : ∀ a b : Value, (([(("self" : Str), a), (f, b)] : List (Str × Value)).all fun y => (xiS f).names.lookup y.1 == some .local || (xiS f).names.lookup y.1 == some .cell) = true
  lf : ∀ (qi : Str) (L a : Addr) (cd : Value), (PyProof.Rows.envOfC qi (xiS f) L a cd).kindOf f = some .local
  ls : ∀ (qi : Str) (L a : Addr) (cd : Value), (PyProof.Rows.envOfC qi (xiS f) L a cd).kindOf "self" = some .local
  mf : ∀ (qi : Str) (L k : Addr) (cd a b : Value), PySem.bindL (PyProof.Rows.envOfC qi (xiS f) L k cd).kindOf [(("self" : Str), a), (f, b)] (fun _ => none) f = some b
  ms : ∀ (qi : Str) (L k : Addr) (cd a b : Value), PySem.bindL (PyProof.Rows.envOfC qi (xiS f) L k cd).kindOf [(("self" : Str), a), (f, b)] (fun _ => none) "self" = some a
theorem one_size (v : Value) : [v].length ≤ sizeLine := by
  rw [sizeLine_eq]
  exact (by decide : 1 ≤ 16777216)
theorem ldC {M : Model} {s : Shared} {name : Str} {scope : Scope} {L a : Addr} {cd : Value} {m : Str → Option Value} {x : Str} {pos : Pos} {v : Value} {Q : Value → Shared → Prop} {A : Around} {E : Value → Shared → Prop} (hn : s.heap.Ns L m) (hv : m x = some v) (h : Q v s)
    (hk : scope.kind = .function) (hl : (PyProof.Rows.envOfC name scope L a cd).kindOf x = some .local) (hd : (x == ("__debug__" : Str)) = false) :
    wpAny M A (eval (.Name x pos) (PyProof.Rows.envOfC name scope L a cd)) Q E s := wpAny_Name (wpAny_loadName_local hk hl hn hv h) hd
structure InitEnd (f : Str) (h h' : Heap) (x C dx t1 : Addr) (v : Value) : Prop where
  keep : ∀ b o, b ≠ x → h.get? b = some o → h'.get? b = some o
  obj : h'.get? x = some { cls := .ref C, dict := some dx, data := .fields #[.ref t1, .none, .none, .none, .bool false, .none] }
  dbig : h.objs.size ≤ dx
  dne : dx ≠ x
  ns : h'.Ns1 dx (fun y => if y = f then some v else none)
structure OwnMade (f : Str) (h h' : Heap) (e C d : Addr) (v : Value) : Prop where
  keep : ∀ b o, h.get? b = some o → h'.get? b = some o
  new : h.objs.size ≤ e
  obj : ∃ oe vs, h'.get? e = some oe ∧ oe.cls = .ref C ∧ oe.dict = some d ∧ oe.data = .fields vs ∧ vs[1]? = some .none
  dbig : h.objs.size ≤ d
  dne : d ≠ e
  ns : h'.Ns1 d (fun y => if y = f then some v else none)
section
variable {prog : Program} {w : World} {A : Around} {E : Value → Shared → Prop} {R : Result → Shared → Prop} {s : Shared} {K : PySem.W.Frag} {mg : Str → Option Value} {C : Addr} {cn f : Str}
theorem xc_made (T : XCls K mg cn f C) (hf : XF f) {v : Value} (X : K.In s.heap) (hlim : s.heap.NoLimit) (hroom : A.depth + 1 < recursionLimit)
    (hq : ∀ h' tk e d, OwnMade f s.heap h' e C d v → R (.ok (.ret (.ref e))) { s with heap := h', toks := tk }) :
    codeAny (model prog w) A (.call (.ref C) ⟨[v], []⟩) R s := by
  obtain ⟨nm, q, N, bs, bm, sn, sub, ab, col, dd, k0, k1, k2, k3, k5, hC, hbm⟩ := T.cls
  obtain ⟨fI, iC, tC, oc, od, doc, pm, an, cdv, ct, osl, p1, p2, q1, q2, q3, q4, qi, ho, hcd⟩ := T.ini
  have hcl : PySem.W.clsIn K C = some { name := nm, bases := bs, mro := .ref C :: bm, ns := N, qualname := q, hasDict := true, slotNames := sn, subclasses := sub, abstract := ab, collection := col, hasDel := false } := by unfold PySem.W.clsIn; rw [hC] <;> rfl
  have low_init : ∀ {A : Around} {R : Result → Shared → Prop} {s : Shared} {x t0 : Addr} {v : Value}, K.In s.heap → s.heap.NoLimit → s.heap.get? x = some (excO C t0) → A.depth < recursionLimit →
      (∀ h' tk dx, InitEnd f s.heap h' x C dx t0 v → R (.ok (.ret .none)) { s with heap := h', toks := tk }) → codeAny (model prog w) A (.call (.ref fI) ⟨[.ref x, v], []⟩) R s := by
    intro A R s x t0 v X hlim hx hroom hq
    refine Att.call_fn (binds := [(("self" : Str), Value.ref x), (f, v)]) X hlim ho hcd hroom (BindsTo.of_eq (hf.bnd _ _ _ _ _ _ _ _ _ _ _ _ _ _)) (hf.kind _ _) (fun s₁ IC => ?_) rfl rfl rfl
    obtain ⟨h₁, tk₁, rfl⟩ := IC.toInCall.same
    have k : ∀ b o, s.heap.get? b = some o → h₁.get? b = some o := IC.toInCall.keep
    have hn := IC.toInCall.ns
    have hxL : s.heap.objs.size ≠ x := Nat.ne_of_gt (Heap.lt_size hx)
    have X₁ : K.In h₁ := X.keeps k
    have hx₁ := k _ _ hx
    show wpAny _ _ (execs _ _) _ _ _
    refine wpAny_execs_cons (plainObj_wpAny_Assign_Attribute ?_)
    refine ldC (v := v) hn (hf.mf _ _ _ _ _ _) (ldC (v := .ref x) hn (hf.ms _ _ _ _ _ _) ?_ rfl (hf.ls _ _ _ _) (by decide)) rfl (hf.lf _ _ _ _) hf.db
    refine PySem.W.set_plain X₁ (ox := excO C t0) (od := none) ⟨hx₁, rfl, rfl, trivial⟩ T.sa ?_
    refine exc_osa X₁ hx₁ hcl (show refsVE (.ref C :: bm) = true from hbm) rfl T.noN (fun h₃ tk₃ dx k₃ dn dne hx₃ hn₃ => ?_)
    show wpAny _ _ (execs _ _) _ _ _
    have z : s.heap.objs.size < h₁.objs.size := hn.lt
    exact wpAny_execs_nil (hq h₃ tk₃ dx ⟨fun b o hb e => k₃ b o hb (k b o e), hx₃, Nat.le_of_lt (Nat.lt_of_lt_of_le z dn), dne, hn₃⟩)
  obtain ⟨hp, g, dr, tk, os⟩ := s
  have k : ∀ b o, hp.get? b = some o → ((hp.push (PySem.W.kdv_tup [v])).push (excO C hp.objs.size)).get? b = some o := fun b o e => Heap.get?_push_of_some _ (Heap.get?_push_of_some _ e)
  have hget : ((hp.push (PySem.W.kdv_tup [v])).push (excO C hp.objs.size)).get? (hp.objs.size + 1) = some (excO C hp.objs.size) := by heap_get
  refine call_own F.excBase_ValueError (fun X => refsVE_contains X bm hbm) (X _ _ hC) (PySem.W.looks_findIn X iC) (fun self => PySem.W.bind_fn X self tC) (one_size v) ?_
  refine low_init (s := ⟨(hp.push (PySem.W.kdv_tup [v])).push (excO C hp.objs.size), g, dr, tk, os⟩) (X.keeps k) (hlim.keeps k) hget ?_ fun h' tk' dx ⟨k', hx, dn, dne, hns⟩ => ?_
  · show A.depth + 1 < recursionLimit
    exact hroom
  · have old : ∀ b o, hp.get? b = some o → h'.get? b = some o := fun b o e => k' b o (Nat.ne_of_lt (Nat.lt_succ_of_lt (Heap.lt_size e))) (k b o e)
    have z : hp.objs.size + 1 + 1 ≤ dx := by
      first
        | (simpa only [Heap.size_push] using dn)
        | exact dn
        | (have q := dn; rw [Heap.size_push, Heap.size_push] at q; exact q)
    exact ⟨rfl, hq h' tk' (hp.objs.size + 1) dx ⟨old, Nat.le_succ _, ⟨_, _, hx, rfl, rfl, rfl, rfl⟩, Nat.le_trans (Nat.le_trans (Nat.le_succ _) (Nat.le_succ _)) z, dne, hns⟩⟩
end
theorem relO_one {f : Str} {v : V} {v' : Value} (r : RelV v v') (g : Str) : RelO (List.lookup g [(f, v)]) (if g = f then some v' else none) := by
  by_cases hw : g = f
  · subst hw
    rw [if_pos rfl]
    have q : List.lookup g [(g, v)] = some v := by simp [List.lookup]
    rw [q]
    exact r
  · rw [if_neg hw]
    have qw : (g == f) = false := by simpa using hw
    have q2 : List.lookup g [(f, v)] = none := by simp [List.lookup, qw]
    rw [q2]
    trivial
def tMkX (f : Str) (C : Addr) (ta : TA) : L2.St → Hp → XK → Prop := fun σ H Q => ta σ H fun vs H1 => ∃ v, vs = [v] ∧ ∀ d, H1 d = none → Q (.ref C) (some d) (upd H1 d (.xd [(f, v)]))
theorem pmk_x {X : Cx} {C : Addr} {cn f : Str} {a : Expr} {ta : TA} {p pos : Pos} {k : Nat} (T : XCls X.K X.mg cn f C) (hf : XF f) (hr : Room (k + 1) X.A) (ha : PA X [a] ta) (hg : Gl X cn) (hcn : (cn == ("__debug__" : Str)) = false)
    (he : starEach (a :: []) X.env = (false, eval a X.env) :: starEach [] X.env) (hpl : (backTo pos (starEach [] X.env)).any (·.1) = false) :
    PMk X (.Call (.Name cn p) [a] [] pos) (tMkX f C ta) := by
  intro pins s σ H Q I h
  refine wpAny_Call_Name_kw (ld_glob I hg T.gC ?_ hcn)
  refine PySem.W.callWith_K (h₀ := X.base) I.ok.mod.kin T.kC (thn (ha.run pos pins s σ H _ I h) fun us s1 hh => ?_) he hpl
  obtain ⟨vs, H1, I1, r1, v, ev, q1⟩ := hh
  subst ev
  refine ⟨I1.kIn, ?_⟩
  cases r1 with
  | cons rv rn =>
    rename_i v' us'
    cases rn
    show wpAny _ _ (call (.ref C) [v']) _ _ _
    have hlim := I1.nolimit
    obtain ⟨hp, g, dr, tk, os⟩ := s1
    refine wpAny_call (xc_made T hf I1.kIn hlim (by have := hr.dp; omega) fun h' tk' e d M => ?_)
    show MkP X pins σ Q (.ref e) ⟨h', g, dr, tk', os⟩
    obtain ⟨oe, fv, hoe, hc, hd, hdat, h1⟩ := M.obj
    have hns := M.ns
    obtain ⟨G', g1, g2⟩ := restrict h' fun b => decide (b ≠ e)
    have gk : ∀ b, b ≠ e → G'.get? b = h'.get? b := fun b hb => g1 b (decide_eq_true hb)
    have ge : G'.get? e = none := g2 e (by simp)
    have old : ∀ b o, hp.get? b = some o → G'.get? b = some o := fun b o q => (gk b (Nat.ne_of_lt (Nat.lt_of_lt_of_le (Heap.lt_size q) M.new))).trans (M.keep b o q)
    have ob : ObjOk X.prog X.w (upd H1 d (.xd [(f, v)])) G' d (.xd [(f, v)]) :=
      ⟨_, hns.at (fun o q => (gk d M.dne).trans q), fun y => relO_one rv y⟩
    have J : Inv X pins σ (upd H1 d (.xd [(f, v)])) ⟨G', g, dr, tk', os⟩ := I1.laid (t' := tk') old M.dbig ob
    refine ⟨e, oe, fv, ⟨G', g, dr, tk', os⟩, _, .ref C, some d, rfl, J, fun b o q => ?_, ge, hoe, ⟨hc, hd⟩, hdat, h1, ?_, rfl, I1.bare, raises_own T.x.hs T.tyC, q1 d (I1.hok.fresh M.dbig)⟩
    · by_cases hb : b = e
      · have q' : G'.get? b = some o := q
        rw [hb, ge] at q'; cases q'
      · exact (gk b hb).symm.trans q
    · rw [upd_ne (Ne.symm M.dne)]
      exact I1.hok.fresh M.new
variable [Tb]
section
variable {c : CxD} {B : Bs} {e a b : Expr} {ss rest : List Stmt} {sl sl1 : List Sl} {p : Bool} {pos p1 pos2 : Pos} {R : Rt} {d : PyData} {cn f : Str} {C : Addr}
/-- raise C(e) -/
theorem go_raise (T : XCls c.K c.mg cn f C) (h : EV c B a sl p (.st d) sl1) (hr : R.ex ⟨cn, some (f, d)⟩ sl1) (hlv : 1 ≤ c.lv := by exact Nat.le_of_ble_eq_true rfl) (hf : XF f := by exact ⟨by decide, by decide, fun _ _ _ _ _ _ _ _ _ _ _ _ _ _ => rfl, fun _ _ => rfl, fun _ _ _ _ => rfl, fun _ _ _ _ => rfl, fun _ _ _ _ _ _ => rfl, fun _ _ _ _ _ _ => rfl⟩) (hcn : (cn == ("__debug__" : Str)) = false := by decide) (hg : c.sc.names.lookup cn = some .globalImplicit := by rfl)
    (he : ∀ env, starEach (a :: []) env = (false, eval a env) :: starEach [] env := by intro _; rfl) (hpl : ∀ env, (backTo pos (starEach [] env)).any (·.1) = false := by intro _; rfl) : GO c B (.Raise (some (.Call (.Name cn p1) [a] [] pos)) none pos2 :: rest) sl R := by
  obtain ⟨ta, ga, sa⟩ := av_cons h (av_nil (sl := sl1)) rfl he
  refine go_cons (M := fun _ => False) ⟨fun _ σ H => tMkX f C ta σ H fun cls d H' => c.W cls d σ H', fun X hX => ps_raise hX.calm hX.tk (pmk_x (k := c.lv - 1) (by rw [hX.hK, hX.hm]; exact T) hf (hX.rm.mono (by omega)) (ga X hX) (hX.g cn hg) hcn (he _) (hpl _)), fun S H σ I D q => ?_⟩ fun _ h => h.elim
  refine sa S H σ I _ fun vs S1 H1 I1 a1 x1 => ?_
  obtain ⟨v, rfl, hv⟩ := one_arg x1
  refine ⟨v, rfl, fun dx hdx => ?_⟩
  obtain ⟨I2, a2⟩ := I1.laid2 (o := .xd [(f, v)]) hdx
  exact q.ex _ _ σ sl1 (.ref C) (some dx) ⟨cn, some (f, d)⟩ (a1.s.trans a2.s) I2 ⟨C, T.gC, rfl, dx, v, rfl, upd_same, Tr.mono a2.s hv⟩ hr
end
theorem xf_index : XF "index" := ⟨by decide, by decide, fun _ _ _ _ _ _ _ _ _ _ _ _ _ _ => rfl, fun _ _ => rfl, fun _ _ _ _ => rfl, fun _ _ _ _ => rfl, fun _ _ _ _ _ _ => rfl, fun _ _ _ _ _ _ => rfl⟩
end Mw

/-! NwX: try: .. except .. as e: v = e. -/
namespace Mw
open PySem PySem.Spec L2
variable [Tb]
/-- the caught exception is known from now on -/
theorem Inv.tell {X : Cx} {pins : List (Addr × Obj)} {σ : L2.St} {H : Hp} {s : Shared} {a C : Addr} {oe : Obj} {d : Option Addr} (I : Inv X (pins ++ [(a, oe)]) σ H s) (hz : Zc (.ref C) d oe) (hf : ∃ vs, oe.data = .fields vs) (h0 : X.s_0.heap.get? a = none) (hp : ∀ p ∈ X.pn ++ pins, p.1 ≠ a) : Inv X pins σ (upd H a (exO a C d)) s := by
  obtain ⟨ha, nH, nL, nF, nC⟩ := I.pin (a, oe) (by simp)
  have ne : ∀ {b : Addr} {o : HO}, H b = some o → b ≠ a := fun e => ne_of_none e nH
  refine ⟨I.ok, I.os, I.bare, ⟨I.base.keep, I.base.slot, fun b o e n hx => ?_, I.base.there, fun b xs e => ?_, fun b o u e => ?_, fun b ps e => ?_⟩, I.loc, I.cell, ?_, fun x c e => ?_, fun p hp2 => ?_, fun b o e => ?_, I.len⟩
  · rw [upd_ne fun z => by rw [z, h0] at e; cases e]
    exact I.base.free b o e n hx
  · have := I.base.tups b xs e
    rw [upd_ne (ne this)]; exact this
  · have := I.base.frzs b o u e
    rw [upd_ne (ne this)]; exact this
  · obtain ⟨more, this⟩ := I.base.tbls b ps e
    exact ⟨more, by rw [upd_ne (ne this)]; exact this⟩
  · rw [upd_ne (Ne.symm nL)]; exact I.free
  · have hca : c ≠ a := fun z => by
      obtain ⟨v, o, ho, hd⟩ := I.cell x c e
      rw [z] at ho
      have h2 : s.heap.get? a = some oe := ha
      rw [h2] at ho
      cases ho
      exact nC v hd
    rw [upd_ne hca]; exact I.freeC x c e
  · obtain ⟨q1, q2, q3, q4, q5⟩ := I.pin p (by rw [← List.append_assoc]; exact List.mem_append_left _ hp2)
    exact ⟨q1, by rw [upd_ne (hp p hp2)]; exact q2, q3, q4, q5⟩
  · by_cases hb : b = a
    · subst hb
      rw [upd_same] at e
      cases e
      obtain ⟨vs, hv⟩ := hf
      exact ⟨⟨oe, vs, ha, hz, hv⟩, ⟨oe, ha⟩, fun h1 h2 ⟨oe', vs', q1, q2, q3⟩ st => ⟨oe', vs', st _ q1, q2, q3⟩⟩
    · rw [upd_ne hb] at e
      exact (I.hok b o e).stay (fun c v _ q => q) (fun c q => by rw [upd_ne (ne q)]; exact q) fun c xs q => by rw [upd_ne (ne q)]; exact q
/-- a test of an except clause: the classes by name -/
def XTest (c : CxD) (t : Expr) (ns : List Str) : Prop :=
  ∀ (X : Cx), InCx c X → ∀ (a : Addr) (pn pins : List (Addr × Obj)) (σ : L2.St) (H : Hp) (s : Shared) (cls : Value) (Cs : List Addr) (b : Bool) (Q : Bool → Shared → Prop) (E : Value → Shared → Prop),
    Inv (X.suite a pn) pins σ H s → Paired (fun n C => c.mg n = some (.ref C)) ns Cs → PySem.W.exmAny c.K cls (Cs.map .ref) = some b → PySem.W.Looks (model X.prog X.w) s.heap (typeOf (.ref a)) cls →
    (∀ h', (∀ q o, s.heap.get? q = some o → h'.get? q = some o) → Q b { s with heap := h' }) →
    wpAny (model X.prog X.w) (X.A.mark (some (.ref a))) (eval t X.env) (fun cv s₁ => wpAny (model X.prog X.w) (X.A.mark (some (.ref a))) (excMatches (.ref a) cv) Q E s₁) E s
section
variable {c : CxD} {x x1 x2 x3 x4 x5 x6 : Str} {np p1 p2 p3 p4 p5 p6 tp : Pos} {kk : Nat}
theorem xn {X : Cx} (hX : InCx c X) {a : Addr} {pn pins : List (Addr × Obj)} {σ : L2.St} {H : Hp} {s : Shared} (I : Inv (X.suite a pn) pins σ H s) {C : Addr} {Q : Value → Shared → Prop} {E : Value → Shared → Prop} (hg : c.sc.names.lookup x = some .globalImplicit) (hm : c.mg x = some (.ref C)) (hd : (x == ("__debug__" : Str)) = false) (q : Q (.ref C) s) :
    wpAny (model X.prog X.w) (X.A.mark (some (.ref a))) (eval (.Name x np) X.env) Q E s :=
  ld_glob (X := X.suite a pn) I (hX.g x hg) (by show X.mg x = _; rw [hX.hm]; exact hm) q hd
theorem xt_name (hg : c.sc.names.lookup x = some .globalImplicit := by rfl) (hd : (x == ("__debug__" : Str)) = false := by decide) : XTest c (.Name x np) [x] := by
  intro X hX a pn pins σ H s cls Cs b Q E I hC hx LT q
  cases hC with
  | cons h1 hC =>
    cases hC
    obtain ⟨b1, d1, e1, e2, rfl⟩ := PySem.W.exmAny_cons hx
    have e2 : some false = some d1 := e2
    cases e2
    rw [Bool.or_false] at q
    rw [← hX.hK] at e1
    exact xn hX I hg h1 hd ((PySem.W.exm_one I.kIn LT e1).here (q s.heap fun _ _ z => z))
theorem xt_tup2 (g1 : c.sc.names.lookup x1 = some .globalImplicit := by rfl) (g2 : c.sc.names.lookup x2 = some .globalImplicit := by rfl) (d1 : (x1 == ("__debug__" : Str)) = false := by decide) (d2 : (x2 == ("__debug__" : Str)) = false := by decide) : XTest c (.Tuple [.Name x1 p1, .Name x2 p2] kk tp) [x1, x2] := by
  intro X hX a pn pins σ H s cls Cs b Q E I hC hx LT q
  cases hC with
  | cons h1 hC =>
  cases hC with
  | cons h2 hC =>
    cases hC
    rw [← hX.hK] at hx
    refine wpAny_Tuple ?_
    refine wpAny_items_cons (xn hX I g1 h1 d1 ?_)
    refine wpAny_items_cons (xn hX I g2 h2 d2 ?_)
    refine wpAny_items_nil ⟨by size_fits, ?_⟩
    have kp : ∀ (C : List Value) (q : Addr) (o : Obj), s.heap.get? q = some o → (s.heap.push { cls := .type "tuple", data := .seq C.toArray }).get? q = some o := fun _ _ _ z => Heap.get?_push_of_some _ z
    exact (PySem.W.exm_tup2 (I.kIn.keeps (kp _)) (LT.keeps (kp _)) (Heap.get?_push_size s.heap rfl) hx).here (q _ (kp _))
theorem xt_tup3 (g1 : c.sc.names.lookup x1 = some .globalImplicit := by rfl) (g2 : c.sc.names.lookup x2 = some .globalImplicit := by rfl) (g3 : c.sc.names.lookup x3 = some .globalImplicit := by rfl) (d1 : (x1 == ("__debug__" : Str)) = false := by decide) (d2 : (x2 == ("__debug__" : Str)) = false := by decide) (d3 : (x3 == ("__debug__" : Str)) = false := by decide) : XTest c (.Tuple [.Name x1 p1, .Name x2 p2, .Name x3 p3] kk tp) [x1, x2, x3] := by
  intro X hX a pn pins σ H s cls Cs b Q E I hC hx LT q
  cases hC with
  | cons h1 hC =>
  cases hC with
  | cons h2 hC =>
  cases hC with
  | cons h3 hC =>
    cases hC
    rw [← hX.hK] at hx
    refine wpAny_Tuple ?_
    refine wpAny_items_cons (xn hX I g1 h1 d1 ?_)
    refine wpAny_items_cons (xn hX I g2 h2 d2 ?_)
    refine wpAny_items_cons (xn hX I g3 h3 d3 ?_)
    refine wpAny_items_nil ⟨by size_fits, ?_⟩
    have kp : ∀ (C : List Value) (q : Addr) (o : Obj), s.heap.get? q = some o → (s.heap.push { cls := .type "tuple", data := .seq C.toArray }).get? q = some o := fun _ _ _ z => Heap.get?_push_of_some _ z
    exact (PySem.W.exm_tup3 (I.kIn.keeps (kp _)) (LT.keeps (kp _)) (Heap.get?_push_size s.heap rfl) hx).here (q _ (kp _))
theorem xt_tup4 (g1 : c.sc.names.lookup x1 = some .globalImplicit := by rfl) (g2 : c.sc.names.lookup x2 = some .globalImplicit := by rfl) (g3 : c.sc.names.lookup x3 = some .globalImplicit := by rfl) (g4 : c.sc.names.lookup x4 = some .globalImplicit := by rfl) (d1 : (x1 == ("__debug__" : Str)) = false := by decide) (d2 : (x2 == ("__debug__" : Str)) = false := by decide) (d3 : (x3 == ("__debug__" : Str)) = false := by decide) (d4 : (x4 == ("__debug__" : Str)) = false := by decide) : XTest c (.Tuple [.Name x1 p1, .Name x2 p2, .Name x3 p3, .Name x4 p4] kk tp) [x1, x2, x3, x4] := by
  intro X hX a pn pins σ H s cls Cs b Q E I hC hx LT q
  cases hC with
  | cons h1 hC =>
  cases hC with
  | cons h2 hC =>
  cases hC with
  | cons h3 hC =>
  cases hC with
  | cons h4 hC =>
    cases hC
    rw [← hX.hK] at hx
    refine wpAny_Tuple ?_
    refine wpAny_items_cons (xn hX I g1 h1 d1 ?_)
    refine wpAny_items_cons (xn hX I g2 h2 d2 ?_)
    refine wpAny_items_cons (xn hX I g3 h3 d3 ?_)
    refine wpAny_items_cons (xn hX I g4 h4 d4 ?_)
    refine wpAny_items_nil ⟨by size_fits, ?_⟩
    have kp : ∀ (C : List Value) (q : Addr) (o : Obj), s.heap.get? q = some o → (s.heap.push { cls := .type "tuple", data := .seq C.toArray }).get? q = some o := fun _ _ _ z => Heap.get?_push_of_some _ z
    exact (PySem.W.exm_tup4 (I.kIn.keeps (kp _)) (LT.keeps (kp _)) (Heap.get?_push_size s.heap rfl) hx).here (q _ (kp _))
end
theorem flying_keep {B h h' : Heap} {l : List Env} {a : Addr} {Z : Obj → Prop} (x : HandSPX.FlyingZ B l a Z h) (k : ∀ q o, h.get? q = some o → h'.get? q = some o) : HandSPX.FlyingZ B l a Z h' := by
  obtain ⟨k1, k2, k3, oe, vs, T, oT, ts, he, hz, hd, h1, hn, hne, hT, hdT, h3⟩ := x
  exact ⟨fun b o e => k _ _ (k1 b o e), k2, k3.of_keeps fun b o e _ => ⟨o, k _ _ e, rfl⟩, oe, vs, T, oT, ts, k _ _ he, hz, hd, h1, hn, hne, k _ _ hT, hdT, h3⟩
theorem upto_keep {h h' : Heap} (k : ∀ q o, h.get? q = some o → h'.get? q = some o) : h.UpToSlots h' := fun b o e _ => ⟨o.slots, k _ _ e⟩
section
variable {c : CxD} {X : Cx} {x y : Str} {i j : Nat} {t : Expr} {ns : List Str} {Cs : List Addr} {body : List Stmt} {yp xp ap pos pos' : Pos}
theorem ps_catch (hX : InCx c X) (htop : c.top = true) (ht : XTest c t ns) (hC : Paired (fun n C => c.mg n = some (.ref C)) ns Cs) (hN : X.N.Nodup) (hi : X.N[i]? = some x) (hj : X.N[j]? = some y) (hln : X.env.kindOf x = some .local) (hly : Loc X.env.scope y) (hfy : X.fn y = true ∨ X.env.scope.names.lookup y = some .local) (hvx : Vis X.env.scope x) (hdx : (x == ("__debug__" : Str)) = false) (hcd : (x == ("__classdict__" : Str)) = false)
    (hsw : swapsWith (.Name x xp) (some (.Name y yp)) ap.line X.env = pure false := by rfl) :
    PS X (.Try body [.ExceptHandler (some t) (some x) [.Assign [.Name y yp] (.Name x xp) ap] pos'] [] [] pos) (fun D σ H => ∃ W : WX, (∀ cls d σ' H', W cls d σ' H' → ∃ C : Addr, cls = .ref C ∧ PySem.W.exmAny c.K cls (Cs.map .ref) = some true ∧ ∀ a, H' a = none → D.nx (((σ'.set i (some (.ref a))).set j (some (.ref a))).set i none) (upd H' a (exO a C d))) ∧ rB { c with W := W } body D σ H) := by
  obtain ⟨hs, hf, hex⟩ := hX.tp htop
  refine ⟨fun pins s σ H D I h => ?_⟩
  obtain ⟨W, hW, h⟩ := h
  have ok := I.ok
  have hfr : X.A.frames = some (X.env :: X.outer) := by rw [ok.frames, hs]
  have hloc : Loc X.env.scope x := .inl hln
  refine wpAny_Try_except ?_
  have hcx : ∀ (pn : List (Addr × Obj)) (xe : Value → Shared → Prop), Takes (X.tr pn xe) W → PassesOwn (model X.prog X.w) X.A X.env xe → InCx { c with W := W } (X.tr pn xe) := fun pn xe tk po => ⟨hX.hP, hX.hw, hX.hK, hX.hm, hX.hb, hX.hN, hX.calm, hX.kind, hX.gu, hX.rm, hX.v, hX.l, hX.g, hX.f, hX.fn, po, tk, hX.tp, hX.cd, hX.ql, fun pn2 xe2 => hX.xt pn2 xe2⟩
  refine wpAny_mono ((ps_rB (hcx (X.pn ++ pins) (fun e s₁ => wpAny (model X.prog X.w) X.A (noteFrame e X.env) (fun _ s₂ => wpAny (model X.prog X.w) X.A (setFlight e none) (fun _ s₃ =>
    wpAny (model X.prog X.w) X.A (handleBy e X.env [.ExceptHandler (some t) (some x) [.Assign [.Name y yp] (.Name x xp) ap] pos']) (SP X pins D) X.xe s₃) X.xe s₂) X.xe s₁) (fun u s' xx => ?_) PassesOwn.looking)).run [] s σ H D (I.toTry _) h) (fun f s1 hsp => ?_) (fun e s1 he => he)
  · obtain ⟨a, B, sI, pins', σ', H', cls, d, rfl, J', nb, up, sky, na, os, ag, w⟩ := xx
    obtain ⟨C, rfl, hb1, hyes⟩ := hW _ _ _ _ w
    have J : Inv X pins σ' H' sI := J'.ofTry ok
    have sky' : Sky B (X.env :: X.outer) a (Zc (.ref C) d) X.env.locals s'.heap := by rw [← hs]; exact sky
    show wpAny (model X.prog X.w) X.A (noteFrame (.ref a) X.env) _ _ _
    refine Sky.land Zc.steady hfr hf sky' fun h3 fl3 up3 => ?_
    have J3 : Inv X pins σ' H' { s' with heap := h3 } := J.landed nb fl3.1 (up.trans up3) os ag
    obtain ⟨oe3, vs3, he3, hz3, hd3⟩ := fl3.there
    have notFr : ∀ {h : Heap} {o : Obj} {vs : Array Value}, h.FunFrames B (X.env :: X.outer) → h.get? a = some o → o.data = .fields vs → a ∉ frs (X.env :: X.outer) := fun {h o vs} ff e dd hm => by
      obtain ⟨_, o', e', hnf⟩ := ff.mem hm
      rw [e] at e'; cases e'
      exact hnf _ dd
    have nfr := notFr fl3.2.2.1 he3 hd3
    have nL : a ≠ X.env.locals := fun z => nfr (List.mem_filterMap.mpr ⟨X.env, List.mem_cons_self, by rw [hf, z]⟩)
    have nF : a ∉ X.fs := fun hm => by
      obtain ⟨e, he, q⟩ := List.mem_filterMap.mp hm
      exact nfr (List.mem_filterMap.mpr ⟨e, List.mem_cons_of_mem _ he, q⟩)
    have naI : sI.heap.get? a = none := by
      cases e : sI.heap.get? a with
      | none => rfl
      | some o =>
        have q := nb a o e (by show a ∉ frs X.stack; rw [hs]; exact nfr)
        rw [fl3.2.1] at q
        cases q
    have na0 : X.s_0.heap.get? a = none := by
      cases e : X.s_0.heap.get? a with
      | none => rfl
      | some o =>
        obtain ⟨o', q⟩ := J.base.there a o e (by rw [hex]; simp)
        rw [naI] at q
        cases q
    have npin : ∀ p ∈ X.pn ++ pins, p.1 ≠ a := fun p hp z => by
      have q := (J.pin p hp).1
      rw [z, naI] at q
      cases q
    have S3 := J3.suite he3 hd3 na nL nF
    refine wpAny_handleBy_cons (codeAny_handlers_test ?_) (by intro q; cases q)
    have LT : PySem.W.Looks (model X.prog X.w) h3 (typeOf (.ref a)) (.ref C) := fun A Q E s k q => wpAny_typeOf_ref (k _ _ he3) (by rw [hz3.1]; exact q)
    refine ht X hX a _ [] σ' H' { s' with heap := h3 } (.ref C) Cs true _ _ S3 hC hb1 LT fun h3' k3 => ?_
    refine codeAny_handlers_suite_as ?_
    have fl3' := flying_keep fl3 k3
    refine HandSPX.lands_againZ (s := { s' with heap := h3' }) fl3' fun h4 fl4 up4 => ?_
    have up4' := (up3.trans (upto_keep k3)).trans up4
    have J4 : Inv X pins σ' H' { s' with heap := h4 } := J.landed nb fl4.1 (up.trans up4') os ag
    obtain ⟨oe4, vs4, he4, hz4, hd4⟩ := fl4.there
    have S4 := J4.suite he4 hd4 na nL nF
    refine store_ok (X := X.suite a ((a, oe4) :: (X.pn ++ pins))) (v := .ref a) S4 hN hi hloc rfl (fun s5 S5 => ?_) (.inr hln)
    have gsu : PSs (X.suite a ((a, oe4) :: (X.pn ++ pins))) [.Assign [.Name y yp] (.Name x xp) ap] (tAsg (tVar i) (gName j)) := pss_one (ps_set (X := X.suite a ((a, oe4) :: (X.pn ++ pins))) hN hj hly (pe_var hi hvx hdx hcd) hsw hfy)
    have iσ : (σ'.set i (some (V.ref a)))[i]? = some (some (V.ref a)) := by
      rw [List.getElem?_set_self]
      rw [J.len]; exact (List.getElem?_eq_some_iff.mp hi).1
    refine wpAny_mono (gsu.run [] s5 _ H' { nx := fun σ6 H6 => σ6 = (σ'.set i (some (V.ref a))).set j (some (V.ref a)) ∧ H6 = H', rt := fun _ _ => False } S5 ⟨_, iσ, rfl, rfl⟩) (fun f s6 hsp => ?_) (fun _ _ z => False.elim z)
    cases f with
    | next =>
      obtain ⟨σ6, H6, S6, rfl, rfl⟩ := hsp
      have U6 : Inv X (pins ++ [(a, oe4)]) ((σ'.set i (some (V.ref a))).set j (some (V.ref a))) H6 s6 :=
        ⟨ok, S6.os, S6.bare, S6.base, S6.loc, S6.cell, S6.free, S6.freeC, fun p hp => S6.pin p (by
          show p ∈ ((a, oe4) :: (X.pn ++ pins)) ++ []
          simp only [List.mem_append, List.mem_cons, List.not_mem_nil, or_false] at hp ⊢
          rcases hp with h | h | h
          · exact .inr (.inl h)
          · exact .inr (.inr h)
          · exact .inl h), S6.hok, S6.len⟩
      refine gone_ok U6 hN hi hln fun s7 J7 => ⟨_, _, Inv.tell J7 hz4 ⟨_, hd4⟩ na0 npin, hyes a na⟩
    | brk =>
      obtain ⟨_, _, _, q6⟩ := hsp
      exact False.elim q6
    | cont =>
      obtain ⟨_, _, _, q6⟩ := hsp
      exact False.elim q6
    | ret u =>
      obtain ⟨_, _, _, _, _, q6⟩ := hsp
      exact False.elim q6
  · cases f with
    | next =>
      obtain ⟨σ', H', J', q⟩ := hsp
      exact wpAny_execs_nil ⟨σ', H', J'.ofTry ok, q⟩
    | brk =>
      obtain ⟨σ', H', J', q⟩ := hsp
      exact ⟨σ', H', J'.ofTry ok, q⟩
    | cont =>
      obtain ⟨σ', H', J', q⟩ := hsp
      exact ⟨σ', H', J'.ofTry ok, q⟩
    | ret u =>
      obtain ⟨v, σ', H', J', r, q⟩ := hsp
      exact ⟨v, σ', H', J'.ofTry ok, r, q⟩
end
section
variable {c : CxD} {B : Bs} {x y : Str} {t : Expr} {ns : List Str} {body rest : List Stmt} {yp xp ap pos pos' : Pos} {sl sl1 : List Sl} {R : Rt}
/-- which classes of the program's own a clause catches -/
def Catch (c : CxD) (ns : List Str) : Prop := ∃ Cs : List Addr, Paired (fun n C => c.mg n = some (.ref C)) ns Cs ∧ ∀ n ∈ ns, ∀ C : Addr, c.mg n = some (.ref C) → PySem.W.exmAny c.K (.ref C) (Cs.map .ref) = some true
/-- try: body / except t as x: y = x -/
theorem g1_try (i j : Nat) (ht : XTest c t ns) (hC : Catch c ns) (hb : ∀ W, GO { c with W := W } B body sl { R with ex := fun z s => z.cls ∈ ns ∧ (s[i]?).isSome = true ∧ (s[j]?).isSome = true ∧ ∀ C : Addr, c.mg z.cls = some (.ref C) → R.nx ((s.set j (.val (excD C z.fld))).set i .no) }) (htop : c.top = true := by rfl) (nd : c.N.Nodup := by assumption) (hi : c.N[i]? = some x := by rfl) (hj : c.N[j]? = some y := by rfl) (hij : i ≠ j := by decide) (hx : c.sc.names.lookup x = some .local := by rfl) (hy : c.sc.names.lookup y = some .local ∨ c.sc.names.lookup y = some .cell := by first | exact .inl rfl | exact .inr rfl)
    (hdx : (x == ("__debug__" : Str)) = false := by decide) (hcd : (x == ("__classdict__" : Str)) = false := by decide) (hsw : ∀ env, swapsWith (.Name x xp) (some (.Name y yp)) ap.line env = pure false := by intro _; rfl) :
    G1 c B (.Try body [.ExceptHandler (some t) (some x) [.Assign [.Name y yp] (.Name x xp) ap] pos'] [] [] pos) sl R := by
  obtain ⟨Cs, hCs, hm⟩ := hC
  refine ⟨_, fun X hX => ps_catch (i := i) (j := j) (Cs := Cs) hX htop ht hCs (by rw [hX.hN]; exact nd) (by rw [hX.hN]; exact hi) (by rw [hX.hN]; exact hj) (hX.l x hx) (hX.loc hy).1 (hX.loc hy).2 (hX.v x (.inl hx)) hdx hcd (hsw _), fun S H σ I D q => ?_⟩
  refine ⟨fun cls d σ' H' => ∃ S' sl' z, Same S S' ∧ Stt c.K B S' H' σ' sl' ∧ ExnOk c.K c.mg S' cls d z ∧ z.cls ∈ ns ∧ (sl'[i]?).isSome = true ∧ (sl'[j]?).isSome = true ∧ ∀ C : Addr, c.mg z.cls = some (.ref C) → R.nx ((sl'.set j (.val (excD C z.fld))).set i .no), fun cls d σ' H' hw => ?_, ?_⟩
  · obtain ⟨S', sl', z, s1, I1, ⟨C, hC, rfl, hf⟩, hz, hii, hjj, hr⟩ := hw
    refine ⟨C, rfl, hm _ hz C hC, fun a ha => ?_⟩
    obtain ⟨I2, a2⟩ := I1.laid2 (o := exO a C d) ha
    have I3 := I2.put (i := j) (v := .ref a) (.val (excD C z.fld)) ⟨_, rfl, by
      cases e : z.fld with
      | none =>
        rw [e] at hf
        have hf : d = none := hf
        subst hf
        exact .exc0 upd_same
      | some p =>
        obtain ⟨f, d0⟩ := p
        rw [e] at hf
        obtain ⟨dx, v, rfl, h5, h6⟩ := hf
        exact .exc1 upd_same (a2.s _ _ h5) (h6.mono a2.s)⟩ (fun _ m => absurd m fpS_val) hjj
    have I4 := I3.drop i
    have e2 : ((σ'.set i (some (V.ref a))).set j (some (V.ref a))).set i none = (σ'.set j (some (V.ref a))).set i none := by
      rw [List.set_comm _ _ hij, List.set_set]
    rw [e2]
    exact q.nx _ _ _ _ (s1.trans a2.s) I4 (hr C hC)
  · obtain ⟨r, hr, hs⟩ := hb (fun cls d σ' H' => ∃ S' sl' z, Same S S' ∧ Stt c.K B S' H' σ' sl' ∧ ExnOk c.K c.mg S' cls d z ∧ z.cls ∈ ns ∧ (sl'[i]?).isSome = true ∧ (sl'[j]?).isSome = true ∧ ∀ C : Addr, c.mg z.cls = some (.ref C) → R.nx ((sl'.set j (.val (excD C z.fld))).set i .no))
    exact ⟨r, hr, hs S H σ I D ⟨q.nx, q.rt, q.bk, q.ct, fun S' H' σ' sl' cls dx z s I' ok h => ⟨S', sl', z, s, I', ok, h⟩⟩⟩
end
/-! ### what a caught exception tells -/
section
variable {c : CxD} {B : Bs} {e a b : Expr} {sl sl1 : List Sl} {p : Bool} {pos p1 p2 : Pos} {d : PyData} {f cn : Str} {C : Addr}
structure XGet (K : PySem.W.Frag) (C : Addr) (f : Str) : Prop where
  x : XfC K C
  no : PySem.W.findIn K (.ref C) f = some none
theorem pe_xget {X : Cx} {te : TE} (T : XGet X.K C f) (he : PE X e te) (hb : attributeBase e f X.env (eval e X.env) = eval e X.env) :
    PE X (.Attribute e f pos) (fun σ H Q => te σ H fun x H1 => ∃ (a dx : Addr) (v : V), x = .ref a ∧ H1 a = some (exO a C (some dx)) ∧ H1 dx = some (.xd [(f, v)]) ∧ Q v H1) := by
  refine ⟨fun pins s σ H Q I h => ?_⟩
  refine attr_of hb (thn (he.run pins s σ H _ I h) fun u s1 hh => ?_)
  obtain ⟨x, H1, I1, rx, a, dx, v, rfl, ea, ed, q⟩ := hh
  obtain rfl : u = Value.ref a := rx
  have h1 : ObjOk X.prog X.w H1 s1.heap a (exO a C (some dx)) := I1.hok a _ ea
  obtain ⟨⟨oe, vs, ha, hz, hd⟩, _, _⟩ := h1
  have hx : ObjOk X.prog X.w H1 s1.heap dx (.xd [(f, v)]) := I1.hok dx _ ed
  obtain ⟨mA, hns, hr⟩ := hx
  obtain ⟨od, ho, hl⟩ := lookIn_ns hns
  obtain ⟨u, hu, ru⟩ := RelO.some_of (v := v) (o := mA f) (by have := hr f; simpa [List.lookup] using this)
  have J : PySem.W.InstAt s1.heap a oe C (some od) := ⟨ha, hz.1, by unfold PySem.W.notCls; rw [hd] <;> rfl, by rw [hz.2]; exact ho⟩
  exact HandSPX.exc_get I1.kIn J T.x.ga T.x.gg T.x.exC (PySem.W.findObj_own T.x.hdC T.no rfl (by rw [hl, hu])) (handed_of ru) ⟨v, H1, I1.tok _, ru, q⟩
theorem keyD_nn {k : Key} : keyD k ≠ .none := by rcases k with k | k <;> exact fun z => by cases z
theorem tr_exc1 {K : PySem.W.Frag} {S : Hp} {v : V} {C : Addr} {f : Str} {d : PyData} (x : Tr K S v (excD C (some (f, d)))) : ∃ (a dx : Addr) (w : V), v = .ref a ∧ S a = some (exO a C (some dx)) ∧ S dx = some (.xd [(f, w)]) ∧ Tr K S w d := by
  generalize hd : excD C (some (f, d)) = d' at x
  simp only [excD] at hd
  cases x with
  | dct h t =>
    exfalso
    cases t with
    | nil => exact absurd hd (by simp)
    | cons h t =>
      injection hd with hd
      injection hd with hd _
      injection hd with hd _
      exact absurd hd.symm keyD_nn
  | exc1 h hx t =>
    injection hd with hd
    injection hd with h1 h2
    injection h1 with _ h1
    injection h1 with h1
    injection h2 with h2 _
    injection h2 with h2 h3
    injection h2 with h2
    obtain rfl := Int.ofNat.inj h1
    subst h2 h3
    exact ⟨_, _, _, rfl, h, hx, t⟩
  | _ => exact absurd hd (by simp)
/-- e.f, e a caught exception -/
theorem ev_xget (T : XGet c.K C f) (h : EV c B e sl p (.st (excD C (some (f, d)))) sl1) (hb : ∀ env, attributeBase e f env (eval e env) = eval e env := by intro _; rfl) : EV c B (.Attribute e f pos) sl p (.st d) sl1 := by
  obtain ⟨te, ge, se⟩ := h
  refine ⟨_, fun X hX => pe_xget (C := C) (by rw [hX.hK]; exact T) (ge X hX) (hb _), fun S H σ I Q fn => se S H σ I _ fun v S1 H1 I1 a1 x1 _ => ?_⟩
  obtain ⟨a, dx, w, rfl, h, hx, t⟩ := tr_exc1 x1
  exact ⟨_, _, _, rfl, I1.sh _ _ h, I1.sh _ _ hx, fn _ S1 H1 I1 a1 t trivial⟩
end
end Mw

/-! NwY: more statements. -/
namespace Mw
open PySem PySem.Spec L2
variable [Tb]
section
variable {c : CxD} {B : Bs} {e a b elt iter : Expr} {ifs : List Expr} {ss rest : List Stmt} {sl sl1 sl2 : List Sl} {p q z : Bool} {pos p1 p2 : Pos} {R : Rt} {xs : List Int} {scope : Scope}
/-- name = [f(x) for x in xs if ..], xs numbers, the own slot j -/
theorem go_setCN {nm y : Str} {tp : Pos} (i j : Nat) (g : Int → Option Int) (hi : EI c B (.Name nm tp) iter sl p (nums xs) z sl1)
    (hs : ∀ (i : Nat) (x : Int), xs[i]? = some x → ∃ b, TVs (c.blk scope) B ifs ((sl1.set j .no).set j (.val (.int x))) b ∧ (b = true → ∃ y, g x = some y ∧ EV (c.blk scope) B elt ((sl1.set j .no).set j (.val (.int x))) true (.st (.int y)) ((sl1.set j .no).set j (.val (.int x)))) ∧ (b = false → g x = none))
    (hl : xs.length ≤ 1000000) (h2 : GO c B rest (sl1.set i (.own (.lst (nums (xs.filterMap g))))) R) (hg2 : ∀ d, GT (c.blk scope) B (.Name nm tp) d [j] (sl1.set j .no) ((sl1.set j .no).set j (.val d)) := by intro d; exact gt_name _)
    (ok : blkC c.N c.sc scope [(nm, j)] = true := by (try dsimp only [CxD.blk]); decide +kernel) (hii : (sl1[i]?).isSome = true := by rfl) (hN : c.N[i]? = some y := by rfl) (nd : c.N.Nodup := by assumption) (hx : c.sc.names.lookup y = some .local := by rfl) (hk : (scope.names.any fun (n, k) => n == y && (k == .local || k == .cell)) = false := by decide +kernel) (hln : (p1.line == pos.line) = true := by rfl)
    (hf : ∀ env x, foldedSetIterable iter env x = pure x := by intro _ _; rfl) : GO c B (.Assign [.Name y p1] (.ListComp elt [⟨.Name nm tp, iter, ifs, 0⟩] scope pos) p2 :: rest) sl R :=
  go_cons (M := fun s => s = sl1.set i (.own (.lst (nums (xs.filterMap g))))) (g1_setC i [(nm, j)] (liftI g) hi (fun i d hd => by
    obtain ⟨x, hx, rfl⟩ := nums_get hd
    obtain ⟨b, h1, h2, h3⟩ := hs i x hx
    refine ⟨_, _, b, hg2 _, by simp, h1, fun hb => ?_, fun hb => ?_⟩
    · obtain ⟨y, hy, ev⟩ := h2 hb
      exact ⟨.int y, by show (g x).map _ = _; rw [hy]; rfl, ev⟩
    · show (g x).map _ = _; rw [h3 hb]; rfl) (by show _ = _; rw [fm_nums (g := g) fun x => rfl]) (by rw [len_nums]; exact hl) ok hii hN nd hx hk hln hf) fun s h => h ▸ h2
end
theorem inD_none_nums : ∀ xs : List Int, inD .none (nums xs) = false
  | [] => rfl
  | x :: r => inD_none_nums r
theorem cq_int {i : Int} : canEq (.int i) := ⟨rfl, rfl⟩
theorem cq_none : canEq .none := ⟨rfl, rfl⟩
theorem cq_bool {b : Bool} : canEq (.bool b) := ⟨rfl, rfl⟩
end Mw

/-! NwZ: calls that refuse; what a caught exception is. -/
namespace Mw
open PySem PySem.Spec L2
variable [Tb]
/-! ### a promise, narrowed -/
theorem DefOk.imp {P : Program} {w : World} {K : PySem.W.Frag} {mg : Str → Option Value} {base : Heap} {x : Str} {st : Stmt} {ps : List Str} {lv : Nat} {sp sp' : Sp} (h : DefOk P w K mg base x st ps lv sp) (hi : ∀ vs H Q E, sp' vs H Q E → sp vs H Q E) : DefOk P w K mg base x st ps lv sp' := by
  obtain ⟨f, fd, a, b, c, d⟩ := h.ex
  exact ⟨f, fd, a, b, c, d.imp hi⟩
theorem DefOk.good {α β : Type} {pre : α → Prop} {args : α → List Sl} {out : α → Out} {pre' : β → Prop} {args' : β → List Sl} {res' : β → Kd} {P : Program} {w : World} {K : PySem.W.Frag} {mg : Str → Option Value} {base : Heap} {x : Str} {st : Stmt} {ps : List Str} {lv : Nat} (h : DefOk P w K mg base x st ps lv (Prm K mg (PureX pre args out)))
    (hi : ∀ b, pre' b → ∃ a, pre a ∧ args a = args' b ∧ out a = .ret (res' b)) : DefOk P w K mg base x st ps lv (Prm K mg (Pure pre' args' res')) :=
  h.imp fun vs H Q E ⟨S, ls, cs, u, cs', ⟨b, hb, e1, e2, e3⟩, I, q⟩ => by
    obtain ⟨a, h1, h2, h3⟩ := hi b hb
    exact ⟨S, ls, cs, u, cs', ⟨a, h1, e1.trans h2.symm, e2.trans h3.symm, e3⟩, I, q⟩
/-! ### an expression that raises -/
def XV (c : CxD) (B : Bs) (e : Expr) (sl : List Sl) (p : Bool) (z : Exn) (sl1 : List Sl) : Prop :=
  ∃ te, (∀ X, InCx c X → PE X e te) ∧ ∀ S H σ, Stt c.K B S H σ sl → (∀ S' H' cls dx, Adv σ sl S H sl1 S' H' p → Stt c.K B S' H' σ sl1 → ExnOk c.K c.mg S' cls dx z → c.W cls dx σ H') → ∀ Q, te σ H Q
section
variable {c : CxD} {B : Bs} {e a b : Expr} {es : List Expr} {ss rest : List Stmt} {sl sl1 sl2 : List Sl} {p q : Bool} {ks : List Kd} {k : Kd} {pos p1 p2 p3 : Pos} {R : Rt} {z : Exn}
theorem xv_call {α : Type} {pre : α → Prop} {args : α → List Sl} {out : α → Out} {x : Str} {st : Stmt} {ps : List Str} {lv : Nat} {P : Program} {w : World} {K : PySem.W.Frag} {mg : Str → Option Value} {base : Heap} (v : α) (F : DefOk P w K mg base x st ps lv (Prm K mg (PureX pre args out))) (ha : AV c B (e :: es) sl p ks sl1) (hcs : ArgP ks (args v)) (hp : pre v) (hout : out v = .exn z) (hc : DefOk P w K mg base x st ps lv (Prm K mg (PureX pre args out)) → c.Def x st ps lv (Prm c.K c.mg (PureX pre args out)) := by exact fun h => h) (hlv : lv ≤ c.lv := by exact Nat.le_of_ble_eq_true rfl) (hg : c.sc.names.lookup x = some .globalImplicit := by rfl)
    (hdb : (x == ("__debug__" : Str)) = false := by decide) (he : ∀ env, starEach (e :: es) env = (false, eval e env) :: starEach es env := by intro env; rfl) (hpl : ∀ env, (backTo pos (starEach es env)).any (·.1) = false := by intro env; rfl) : XV c B (.Call (.Name x p1) (e :: es) [] pos) sl p z sl1 := by
  obtain ⟨f, fd, hm, hF, hb, G⟩ := (hc F).ex
  obtain ⟨r, hr, hs⟩ := ha
  refine ⟨fun σ H Q => r σ H fun vs H1 => Prm c.K c.mg (PureX pre args out) vs H1 Q fun cls d H' => c.W cls d σ H', fun X hX => pe_callG (by rw [hX.hP, hX.hw, hX.hK, hX.hm, hX.hb]; exact G) (hX.rm.mono hlv) hX.gu hX.tk (hX.g x hg) (by rw [hX.hm]; exact hm) (by rw [hX.hK]; exact hF.kp) (by rw [hX.hK]; exact hb) (hr X hX) hdb (he _) (hpl _), fun S H σ I w Q => ?_⟩
  refine hs S H σ I _ fun vs S1 H1 I1 a1 x1 => ⟨S1, [], args v, .exn z, args v, ⟨v, hp, rfl, hout.symm, rfl⟩, hcs.stt I1 x1, fun cls dx S' H' J hv => ?_⟩
  obtain ⟨I2, a2⟩ := back0 I1 J
  exact w S' H' cls dx ((a1.trans a2).weak fun h => by rw [h]; rfl) I2 hv
theorem ev_callO {α : Type} {pre : α → Prop} {args : α → List Sl} {out : α → Out} {x : Str} {st : Stmt} {ps : List Str} {lv : Nat} {P : Program} {w : World} {K : PySem.W.Frag} {mg : Str → Option Value} {base : Heap} (v : α) (F : DefOk P w K mg base x st ps lv (Prm K mg (PureX pre args out))) (ha : AV c B (e :: es) sl p ks sl1) (hcs : ArgP ks (args v)) (hp : pre v) (hout : out v = .ret k) (hk : okK k = true := by rfl) (hc : DefOk P w K mg base x st ps lv (Prm K mg (PureX pre args out)) → c.Def x st ps lv (Prm c.K c.mg (PureX pre args out)) := by exact fun h => h) (hlv : lv ≤ c.lv := by exact Nat.le_of_ble_eq_true rfl) (hg : c.sc.names.lookup x = some .globalImplicit := by rfl)
    (hdb : (x == ("__debug__" : Str)) = false := by decide) (he : ∀ env, starEach (e :: es) env = (false, eval e env) :: starEach es env := by intro env; rfl) (hpl : ∀ env, (backTo pos (starEach es env)).any (·.1) = false := by intro env; rfl) : EV c B (.Call (.Name x p1) (e :: es) [] pos) sl p k sl1 :=
  ev_call (hc F) ha hcs ⟨v, hp, rfl, hout.symm, rfl⟩ (okK_h hk) hlv hg hdb he hpl
/-- a statement whose expression raises -/
theorem go_exprX (h : XV c B e sl p z sl1) (hr : R.ex z sl1) (hsw : ∀ env, swapsWith e none pos.line env = pure false := by intro _; rfl) : GO c B (.Expr e pos :: rest) sl R := by
  obtain ⟨te, ge, se⟩ := h
  refine go_cons (M := fun _ => False) ⟨tDrop te, fun X hX => ps_expr (ge X hX) (hsw _), fun S H σ I D q => ?_⟩ fun _ h => h.elim
  exact se S H σ I (fun S' H' cls dx s I' ok => q.ex S' H' σ sl1 cls dx z s.s I' ok hr) _
theorem go_retX (h : XV c B e sl p z sl1) (hr : R.ex z sl1) : GO c B (.Return (some e) pos :: rest) sl R := by
  obtain ⟨te, ge, se⟩ := h
  refine go_cons (M := fun _ => False) ⟨tRet te, fun X hX => ps_ret (ge X hX), fun S H σ I D q => ?_⟩ fun _ h => h.elim
  exact se S H σ I (fun S' H' cls dx s I' ok => q.ex S' H' σ sl1 cls dx z s.s I' ok hr) _
end
/-! ### what a caught exception is -/
structure XIs (K : PySem.W.Frag) (C : Addr) : Prop where
  cl : (PySem.W.clsIn K C).isSome = true
  ga : PySem.W.findIn K (.ref C) "__getattribute__" = some (some (.builtin "BaseException.__getattribute__"))
  gt : PySem.W.findIn K (.ref C) "__getattr__" = some none
  sub : PySem.W.subIn K (.ref C) (.type "BaseException") = some true
  ca : PySem.W.findIn K (.ref C) "__class__" = some (some (.builtin "object.__class__"))
  hn : PySem.W.specialIn K (.builtin "object.__class__") "__get__" = some (some (.builtin "getset_descriptor.__get__"))
  tk : PySem.W.takesIn K (.builtin "object.__class__") = some true
  mr : PySem.W.mroIn K C (.type "object") = some true
def rIsX (K : PySem.W.Frag) (C : Addr) : List V → Hp → VK → Prop := fun xs H Q => ∃ (a : Addr) (dx : Option Addr) (c : V) (cv : Value) (b : Bool), xs = [.ref a, c] ∧ H a = some (exO a C dx) ∧ (∀ d, dx = some d → ∃ fs, H d = some (.xd fs)) ∧ (∀ u, RelV c u → u = cv) ∧ PySem.W.kitOne K (.ref C) cv = some b ∧ Q (.bl b) H
theorem call_isX {X : Cx} {C : Addr} (T : XIs X.K C) : CallR X (.builtin "isinstance") (rIsX X.K C) := by
  intro pins s σ H xs us Q I r h
  obtain ⟨a, dx, c, cv, b, rfl, ha, hdx, hcv, e, q⟩ := h
  cases r with
  | cons rx rr =>
    cases rr with
    | cons rt rr =>
      cases rr
      cases rx
      have ec := hcv _ rt
      subst ec
      have h1 : ObjOk X.prog X.w H s.heap a (exO a C dx) := I.hok a _ ha
      obtain ⟨⟨oe, vs, hae, hz, hd⟩, _, _⟩ := h1
      have J : ∃ od, PySem.W.InstAt s.heap a oe C od := by
        cases dx with
        | none => exact ⟨none, hae, hz.1, by unfold PySem.W.notCls; rw [hd] <;> rfl, by rw [hz.2]; trivial⟩
        | some d =>
          obtain ⟨fs, hfs⟩ := hdx d rfl
          have h2 : ObjOk X.prog X.w H s.heap d (.xd fs) := I.hok d _ hfs
          obtain ⟨mA, hns, _⟩ := h2
          obtain ⟨o, ho, _⟩ := lookIn_ns hns
          exact ⟨some o, hae, hz.1, by unfold PySem.W.notCls; rw [hd] <;> rfl, by rw [hz.2]; exact ho⟩
      obtain ⟨od, J⟩ := J
      exact PySem.W.kia_one (PySem.W.kitx_exc T.cl T.ga T.gt T.sub T.ca T.hn T.tk T.mr) I.kIn J e (fun z => nomatch z) fun tk => ⟨.bl b, H, I.kept (t' := tk) fun _ _ z => z, rfl, q⟩
theorem tr_excD {K : PySem.W.Frag} {S : Hp} {v : V} {C : Addr} {fd : Option (Str × PyData)} (x : Tr K S v (excD C fd)) : ∃ (a : Addr) (dx : Option Addr), v = .ref a ∧ S a = some (exO a C dx) ∧ ∀ d, dx = some d → ∃ fs, S d = some (.xd fs) := by
  cases fd with
  | some p =>
    obtain ⟨a, dx, w, e, h1, h2, _⟩ := tr_exc1 x
    exact ⟨a, some dx, e, h1, fun d e => ⟨_, by cases e; exact h2⟩⟩
  | none =>
    generalize hd : excD C none = d' at x
    simp only [excD] at hd
    cases x with
    | dct h t =>
      exfalso
      cases t with
      | nil => exact absurd hd (by simp)
      | cons h t =>
        injection hd with hd
        injection hd with hd _
        injection hd with hd _
        exact absurd hd.symm keyD_nn
    | exc0 h =>
      injection hd with hd
      injection hd with h1 h2
      injection h1 with _ h1
      injection h1 with h1
      obtain rfl := Int.ofNat.inj h1
      exact ⟨_, none, rfl, h, fun d e => nomatch e⟩
    | _ => exact absurd hd (by simp)
section
variable {c : CxD} {B : Bs} {e a b : Expr} {sl sl1 sl2 : List Sl} {p q : Bool} {pos p1 p2 p3 : Pos} {C : Addr} {fd : Option (Str × PyData)} {t : Bool}
/-- isinstance(e, t), e a caught exception -/
theorem ev_isX {w : V} {wv : Value} (T : XIs c.K C) (ha : EV c B a sl p (.st (excD C fd)) sl1) (hb : EV c B b sl1 q (.raw w) sl2) (hw : ∀ u, RelV w u → u = wv) (ht : PySem.W.kitOne c.K (.ref C) wv = some t) (hm : c.mg "isinstance" = none) (hg : c.sc.names.lookup ("isinstance" : Str) = some .globalImplicit := by rfl)
    (he : ∀ env, starEach [a, b] env = (false, eval a env) :: starEach [b] env := by intro env; rfl) (he2 : ∀ env, starEach [b] env = (false, eval b env) :: starEach [] env := by intro env; rfl) (hpl : ∀ env, (backTo pos (starEach [b] env)).any (·.1) = false := by intro env; rfl) :
    EV c B (.Call (.Name "isinstance" p1) [a, b] [] pos) sl (p && q) (.st (.bool t)) sl2 := by
  have h := ev_callB (pos := pos) (p1 := p1) (ks := [.st (excD C fd), .raw w]) (k := .st (.bool t)) (r := rIsX c.K C) (fun X hX => by have := call_isX (X := X) (C := C) (by rw [hX.hK]; exact T); rw [hX.hK] at this; exact this) (fun B σ sl S H vs I hv Q q => by
    obtain ⟨v, w', rfl, h1, h2⟩ := two_arg hv
    have e2 : w' = w := h2
    subst e2
    obtain ⟨a, dx, rfl, g1, g2⟩ := tr_excD h1
    exact ⟨a, dx, w', wv, t, rfl, I.sh _ _ g1, fun d e => (g2 d e).imp fun fs h => I.sh _ _ h, hw, ht, q.st I (.bl t)⟩) (av_cons ha (av_cons hb av_nil rfl he2) (by simp [Kd.firm]) he) hm (by decide +kernel) hg he hpl
  rwa [Bool.and_true] at h
/-- isinstance(e, D), D a class of the program -/
theorem ev_isXC {x : Str} {D : Addr} (T : XIs c.K C) (ha : EV c B a sl p (.st (excD C fd)) sl1) (hD : c.mg x = some (.ref D)) (ht : PySem.W.kitOne c.K (.ref C) (.ref D) = some t) (hm : c.mg "isinstance" = none) (hgx : c.sc.names.lookup x = some .globalImplicit := by rfl) (h1 : (x == ("__debug__" : Str)) = false := by decide) (hg : c.sc.names.lookup ("isinstance" : Str) = some .globalImplicit := by rfl)
    (he : ∀ env, starEach [a, .Name x p2] env = (false, eval a env) :: starEach [.Name x p2] env := by intro env; rfl) :
    EV c B (.Call (.Name "isinstance" p1) [a, .Name x p2] [] pos) sl p (.st (.bool t)) sl1 := by
  have h := ev_isX (pos := pos) (p1 := p1) T ha (ev_gref (pos := p2) hD hgx h1) (fun u r => r) ht hm hg he (by intro _; rfl) (by intro _; rfl)
  rwa [Bool.and_true] at h
/-- isinstance(e, T), T a class of the language -/
theorem ev_isXT {x : Str} {n : String} (T : XIs c.K C) (ha : EV c B a sl p (.st (excD C fd)) sl1) (hD : c.mg x = none) (ht : PySem.W.kitOne c.K (.ref C) (.type n) = some t) (hm : c.mg "isinstance" = none) (hv : bootBuiltins x = some (.type n) := by decide +kernel) (hgx : c.sc.names.lookup x = some .globalImplicit := by rfl) (hn : x ≠ "__name__" := by decide) (h1 : (x == ("__debug__" : Str)) = false := by decide) (hg : c.sc.names.lookup ("isinstance" : Str) = some .globalImplicit := by rfl)
    (he : ∀ env, starEach [a, .Name x p2] env = (false, eval a env) :: starEach [.Name x p2] env := by intro env; rfl) :
    EV c B (.Call (.Name "isinstance" p1) [a, .Name x p2] [] pos) sl p (.st (.bool t)) sl1 := by
  have h := ev_isX (pos := pos) (p1 := p1) T ha (ev_gty (pos := p2) hD hv hgx hn h1) (fun u r => r) ht hm hg he (by intro _; rfl) (by intro _; rfl)
  rwa [Bool.and_true] at h
end
/-! ### what is known of a class of the program's own -/
structure Cls (K : PySem.W.Frag) (mg : Str → Option Value) (cn f : Str) (C : Addr) : Prop where
  x : XCls K mg cn f C
  i : XIs K C
  g : XGet K C f
  ic : PySem.W.isClsIn K C = true
  ty : PySem.W.typeIn K (.ref C) = some (.type "type")
  self : PySem.W.subIn K (.ref C) (.ref C) = some true
  val : PySem.W.subIn K (.ref C) (.type "ValueError") = some true
theorem cls_mk {K : PySem.W.Frag} {mg : Str → Option Value} {cn f : Str} {C f1 N : Addr} {nm q : Str} {bs : List Value} {sn : List Str} {sub : List Value} {ab : Bool} {col : Option Bool} {dd : Option Addr} {m0 m1 m2 m3 m5 : Option Value} {od1 an1 : Option Addr} {sl1 : Array (Option Value)} {oc1 dc1 pm1 cd1 ct1 : Value} {qi : Str} {p1 p2 q1 q2 q3 q4 : Pos}
    (gC : mg cn = some (.ref C)) (xL : K.lookup C = some (excClassObj nm q C N bs [.type "ValueError", .type "Exception", .type "BaseException", .type "object"] true sn sub ab col dd m0 m1 m2 m3 m5 "ValueError.__new__"))
    (sa : PySem.W.findIn K (.ref C) "__setattr__" = some (some (.builtin "object.__setattr__"))) (ga : PySem.W.findIn K (.ref C) "__getattribute__" = some (some (.builtin "BaseException.__getattribute__"))) (gg : PySem.W.findIn K (.ref C) "__getattr__" = some none) (nf : PySem.W.findIn K (.ref C) f = some none)
    (ca : PySem.W.findIn K (.ref C) "__class__" = some (some (.builtin "object.__class__"))) (hn : PySem.W.specialIn K (.builtin "object.__class__") "__get__" = some (some (.builtin "getset_descriptor.__get__"))) (tk : PySem.W.takesIn K (.builtin "object.__class__") = some true)
    (a1 : PySem.W.findIn K (.ref C) "__init__" = some (some (.ref f1))) (t1 : PySem.W.typeIn K (.ref f1) = some (.type "function"))
    (l1 : K.lookup f1 = some ⟨oc1, od1, .func (PySem.W.fnOf "__init__" qi (xiA f p1 p2) (xiB f q1 q2 q3 q4) (xiS f) .none .none dc1 pm1 an1 cd1 ct1), sl1⟩) (c1 : PySem.W.codeIn K cd1 qi = true)
    (kC : PySem.W.keepIn K (.ref C) = true) (eC : PySem.W.subIn K (.ref C) (.type "BaseException") = some true) (tC : PySem.W.typeIn K (.ref C) = some (.type "type")) (hC : PySem.W.hasDictIn K C = true) (iC : PySem.W.isClsIn K C = true) (sC : PySem.W.subIn K (.ref C) (.ref C) = some true)
    (mC : PySem.W.mroIn K C (.type "object") = some true) (vC : PySem.W.subIn K (.ref C) (.type "ValueError") = some true) : Cls K mg cn f C where
  x := { gC := gC, cls := ⟨nm, q, N, bs, _, sn, sub, ab, col, dd, m0, m1, m2, m3, m5, xL, by decide +kernel⟩, sa := sa, noN := nf, kC := kC, tyC := tC, x := ⟨ga, gg, eC, hC, ca, hn, tk, mC⟩, ini := ⟨f1, a1, t1, oc1, od1, dc1, pm1, an1, cd1, ct1, sl1, p1, p2, q1, q2, q3, q4, qi, l1, c1⟩ }
  i := ⟨iC, ga, gg, eC, ca, hn, tk, mC⟩
  g := ⟨⟨ga, gg, eC, hC⟩, nf⟩
  ic := iC
  ty := tC
  self := sC
  val := vC
section
variable {K : PySem.W.Frag} {mg : Str → Option Value} {cn f cn2 f2 : Str} {C D : Addr}
theorem Cls.kit_val (T : Cls K mg cn f C) : PySem.W.kitOne K (.ref C) (.type "ValueError") = some true := by
  unfold PySem.W.kitOne PySem.W.kitCls
  have e : (Value.ref C == Value.type "ValueError") = false := rfl
  have e2 : PySem.W.kitMeta "ValueError" = true := by decide +kernel
  rw [e, if_neg Bool.false_ne_true]
  show (if PySem.W.kitMeta "ValueError" = true then _ else _) = _
  rw [if_pos e2]
  exact T.val
theorem Cls.kit_self (T : Cls K mg cn f C) : PySem.W.kitOne K (.ref C) (.ref C) = some true := by
  unfold PySem.W.kitOne
  rw [beq_self_eq_true, if_pos rfl]
theorem Cls.kitC {b : Bool} (T : Cls K mg cn2 f2 D) (h : PySem.W.subIn K (.ref C) (.ref D) = some b) : PySem.W.kitCls K (.ref C) (.ref D) = some b := by
  have e : ((PySem.W.clsIn K D).isSome && PySem.W.typeIn K (.ref D) == some (.type "type")) = true := by
    have h2 : (PySem.W.clsIn K D).isSome = true := T.ic
    rw [h2, T.ty] <;> rfl
  show (if _ then _ else _) = _
  rw [if_pos e]
  exact h
theorem Cls.kit_no (T : Cls K mg cn2 f2 D) (h : PySem.W.subIn K (.ref C) (.ref D) = some false) (hne : C ≠ D) : PySem.W.kitOne K (.ref C) (.ref D) = some false := by
  unfold PySem.W.kitOne
  have e : (Value.ref C == Value.ref D) = false := by
    refine Bool.eq_false_iff.mpr fun q => hne ?_
    exact Value.ref.inj (beq_iff_eq.mp q)
  rw [e, if_neg Bool.false_ne_true]
  exact T.kitC h
theorem Cls.exm {b : Bool} (T : Cls K mg cn2 f2 D) (h : PySem.W.subIn K (.ref C) (.ref D) = some b) : PySem.W.exmOne K (.ref C) (.ref D) = some b := by
  unfold PySem.W.exmOne
  rw [T.i.sub] <;> exact T.kitC h
theorem exmAny_nil {cls : Value} : PySem.W.exmAny K cls [] = some false := rfl
theorem exmAny_c {cls c : Value} {r : List Value} {b d : Bool} (h1 : PySem.W.exmOne K cls c = some b) (h2 : PySem.W.exmAny K cls r = some d) : PySem.W.exmAny K cls (c :: r) = some (b || d) := by
  show (match PySem.W.exmOne K cls c, PySem.W.exmAny K cls r with | some b, some d => some (b || d) | _, _ => none) = _
  rw [h1, h2]
end
section
variable {c : CxD} {cn1 f1 cn2 f2 cn3 f3 cn4 f4 : Str} {C1 C2 C3 C4 : Addr}
theorem catch1 (T1 : Cls c.K c.mg cn1 f1 C1) : Catch c [cn1] := ⟨[C1], .cons T1.x.gC .nil, fun n hn C hC => by
  rw [List.mem_singleton.mp hn, T1.x.gC] at hC
  cases hC
  exact exmAny_c (T1.exm T1.self) exmAny_nil⟩
theorem catch2 (T1 : Cls c.K c.mg cn1 f1 C1) (T2 : Cls c.K c.mg cn2 f2 C2) (h12 : PySem.W.subIn c.K (.ref C1) (.ref C2) = some false) (h21 : PySem.W.subIn c.K (.ref C2) (.ref C1) = some false) : Catch c [cn1, cn2] := ⟨[C1, C2], .cons T1.x.gC (.cons T2.x.gC .nil), fun n hn C hC => by
  rcases List.mem_cons.mp hn with rfl | hn
  · rw [T1.x.gC] at hC
    cases hC
    exact exmAny_c (T1.exm T1.self) (exmAny_c (T2.exm h12) exmAny_nil)
  · rw [List.mem_singleton.mp hn, T2.x.gC] at hC
    cases hC
    exact exmAny_c (T1.exm h21) (exmAny_c (T2.exm T2.self) exmAny_nil)⟩
end
end Mw

/-! NwZA: tuple(x), {}. -/
namespace Mw
open PySem PySem.Spec L2
variable [Tb]
section
variable {c : CxD} {B : Bs} {e a b : Expr} {sl sl1 sl2 : List Sl} {p q : Bool} {pos p1 p2 p3 : Pos} {k1 k2 : Kd} {ds : List PyData}
/-- tuple(x), x a list -/
theorem ev_tupOf (ha : EV c B e sl p k1 sl1) (hm : c.mg "tuple" = none) (hl : LsK k1 ds := by first | exact .st | exact .ls | exact .fr) (hg : c.sc.names.lookup ("tuple" : Str) = some .globalImplicit := by rfl) (he : ∀ env, starEach [e] env = (false, eval e env) :: starEach [] env := by intro env; rfl) :
    EV c B (.Call (.Name "tuple" p1) [e] [] pos) sl p (.st (.tuple ds)) sl1 :=
  ev_call1T (fun X hX => by have := call_tuple_of (X := X); rw [hX.hK] at this; exact this) (fun B σ sl S H v I hk Q q => by
    obtain ⟨l, xs, rfl, h1, t⟩ := hl.rd I hk
    exact ⟨l, xs, rfl, .inl ⟨h1, fun m hn => q.ntup I hn t⟩⟩) ha hm (by decide +kernel) hg he
/-- {} -/
theorem ev_dict0 : EV c B (.Dict [] [] pos) sl true (.st (.dict [])) sl := by
  refine ⟨tDNewK, fun X hX => pe_dnewK, fun S H σ I Q fn l hn => ?_⟩
  obtain ⟨I2, a2⟩ := I.laid2 (o := .dK []) hn
  exact fn (.ref l) _ _ I2 a2 (.dct (.inl upd_same) .nil) trivial
/-- (..) + (..) -/
theorem ev_catT {ds' : List PyData} (ha : EV c B a sl p (.st (.tuple ds)) sl1) (hb : EV c B b sl1 true (.st (.tuple ds')) sl2) (hz : ds.length + ds'.length ≤ 1000000) : EV c B (.BinOp a .Add b pos) sl p (.st (.tuple (ds ++ ds'))) sl2 := by
  have h := ev_bin (pos := pos) (op := .Add) (r := rCatA c.K) (k := .st (.tuple (ds ++ ds'))) (fun X hX => by rw [← hX.hK]; exact op_catA) (fun B σ sl S H x y I hx hy Q q => by
    obtain ⟨l, xs, rfl, hl, tx⟩ := tr_tup hx
    obtain ⟨m, ys, rfl, hm, ty⟩ := tr_tup hy
    refine ⟨l, m, xs, ys, rfl, rfl, (same_sam I.sh).sqt hl, (same_sam I.sh).sqt hm, by rw [tx.len, ty.len, sizeLine_eq]; omega, fun e => ?_, fun e1 e => ?_, fun e1 e2 z hn => q.ntup I hn (tx.app ty)⟩
    · subst e
      cases tx
      exact q.st I hy
    · subst e
      cases ty
      rw [List.append_nil] at q
      exact q.st I hx) ha hb rfl
  rwa [Bool.and_true] at h
end
section
variable {c : CxD} {B : Bs} {e a b : Expr} {es : List Expr} {rest : List Stmt} {sl sl1 : List Sl} {s s0 : Sl} {p q : Bool} {pos p1 p2 p3 : Pos} {ks : List Kd} {ds ds0 ds' : List PyData} {d : PyData} {R : Rt}
/-- x.name(e, ..) of a changing list; e changes other things -/
theorem ev_mutX {name : Str} {id : String} {r : V → List V → Hp → VK → Prop} (i : Nat) {x : Str} (pa : PlainAttrs "list") (slot : Slot "list" name id) (hty : typeOf (.builtin id) = pure (.type "method_descriptor")) (hm : ∀ X, InCx c X → MtR X id r) (ha : AV c B (e :: es) sl p ks sl1)
    (hr : ∀ B σ S H l vs xs, Stt c.K B S H σ sl1 → KdsOk c.K B σ sl1 S H vs ks → H l = some (.lst xs) → Trs c.K S xs ds → ∀ Q : VK, (∀ v ys, Tr c.K S v d → Trs c.K S ys ds' → Q v (upd H l (.lst ys))) → r (.ref l) vs H Q)
    (hs0 : sl[i]? = some s0 := by rfl) (ho0 : s0.ow = some (.lst ds0) := by rfl) (hs : sl1[i]? = some s := by rfl) (ho : s.ow = some (.lst ds) := by rfl) (hN : c.N[i]? = some x := by rfl) (hv : Vis c.sc x := by first | exact .inl rfl | exact .inr (.inl rfl) | exact .inr (.inr rfl))
    (h1 : (x == ("__debug__" : Str)) = false := by decide) (h2 : (x == ("__classdict__" : Str)) = false := by decide) (hbase : ∀ env, attributeBase (.Name x p1) name env (eval (.Name x p1) env) = eval (.Name x p1) env := by intro _; rfl)
    (hfew : ∀ env, ((backTo p3 (starEach (e :: es) env)).all (fun x => !x.1) && (backToKw p3 (keywordEach [] env)).all (fun x => x.1.isSome) && decide ((e :: es).length + ([] : List Keyword).length + (if ([] : List Keyword).isEmpty then 0 else 1) < 30)) = true := by intro _; rfl)
    (hline : (p2.endLine == p3.line) = true := by rfl) (hst : ∀ env, starEach (e :: es) env = (false, eval e env) :: starEach es env := by intro _; rfl) (hpl : ∀ env, (backTo p3 (starEach es env)).any (·.1) = false := by intro _; rfl) :
    EV c B (.Call (.Attribute (.Name x p1) name p2) (e :: es) [] p3) sl false (.st d) (sl1.set i (s.put (.lst ds'))) := by
  obtain ⟨ta, ga, sa⟩ := ha
  refine ⟨tBM c.K "list" r (tVar i) ta, fun X hX => by have := pe_bm pa slot hty (hm X hX) (pe_var (X := X) (i := i) (pos := p1) (by rw [hX.hN]; exact hN) (hX.v x hv) h1 h2) (ga X hX) (apos := p2) (cpos := p3) (hbase _) (hfew _) hline (hst _) (hpl _); rw [hX.hK] at this; exact this, fun S H σ I Q fn => ?_⟩
  obtain ⟨l, el, nl, xs0, hx0, t0⟩ := I.own hs0 ho0
  refine ⟨.ref l, el, .inl ⟨rfl, xs0, .inl (.inl hx0)⟩, ?_⟩
  refine sa S H σ I _ fun vs S1 H1 I1 a1 x1 => ?_
  obtain ⟨l', el', nl', xs, hx, tx⟩ := I1.own hs ho
  rw [el] at el'
  cases el'
  refine hr B σ S1 H1 l vs xs I1 x1 hx tx Q fun v ys tv ty => ?_
  have I2 := I1.mutate (u := .lst ys) hs ho (put_ow (o' := .lst ds') ho) put_kind el ⟨ys, upd_same, ty⟩
  exact fn v S1 _ I2 ((a1.trans (mut_adv I1 hs ho el)).weak fun h => nomatch h) tv trivial
/-- x.append(e), e changes other things -/
theorem go_appendX (i : Nat) {x : Str} (ha : EV c B e sl p (.st d) sl1) (h3 : GO c B rest (sl1.set i (s.put (.lst (ds ++ [d])))) R) (hs0 : sl[i]? = some s0 := by rfl) (ho0 : s0.ow = some (.lst ds0) := by rfl) (hs : sl1[i]? = some s := by rfl) (ho : s.ow = some (.lst ds) := by rfl) (hN : c.N[i]? = some x := by rfl) (hv : Vis c.sc x := by first | exact .inl rfl | exact .inr (.inl rfl) | exact .inr (.inr rfl))
    (h1 : (x == ("__debug__" : Str)) = false := by decide) (h2 : (x == ("__classdict__" : Str)) = false := by decide) (hbase : ∀ env, attributeBase (.Name x p1) "append" env (eval (.Name x p1) env) = eval (.Name x p1) env := by intro _; rfl)
    (hfew : ∀ env, ((backTo p3 (starEach [e] env)).all (fun x => !x.1) && (backToKw p3 (keywordEach [] env)).all (fun x => x.1.isSome) && decide ([e].length + ([] : List Keyword).length + (if ([] : List Keyword).isEmpty then 0 else 1) < 30)) = true := by intro _; rfl)
    (hline : (p2.endLine == p3.line) = true := by rfl) (hst : ∀ env, starEach [e] env = (false, eval e env) :: starEach [] env := by intro _; rfl) (hl : ds.length ≤ 1000000 := by first | omega | (simp only [len_nums, List.length_append, List.length_map, List.length_cons, List.length_nil]; omega)) : GO c B (.Expr (.Call (.Attribute (.Name x p1) "append" p2) [e] [] p3) pos :: rest) sl R :=
  go_expr (ev_mutX (ks := [.st d]) (ds' := ds ++ [d]) (d := .none) i PySem.F.plainAttrs_list PySem.F.slot_list_append PySem.F.type_list_append (fun _ _ => mt_append) (av_cons ha av_nil (by simp) hst) (fun B σ S H l vs xs I hk hx tx Q q => by
    obtain ⟨v, rfl, hv⟩ := one_arg hk
    exact ⟨l, xs, v, rfl, rfl, hx, by rw [tx.len, sizeLine_eq]; omega, q _ _ .non (tx.app (.one hv))⟩) hs0 ho0 hs ho hN hv h1 h2 hbase hfew hline hst (fun _ => rfl)) h3 (fun _ => rfl)
/-- x[e], x a changing list, e changes other things -/
theorem ev_ixOwn (j : Nat) {x : Str} {i : Int} (hb : EV c B b sl q (.st (.int i)) sl1) (hd : atI ds i = some d) (hs0 : sl[j]? = some s0 := by rfl) (ho0 : s0.ow = some (.lst ds0) := by rfl) (hs : sl1[j]? = some s := by rfl) (ho : s.ow = some (.lst ds) := by rfl) (hN : c.N[j]? = some x := by rfl) (hv : Vis c.sc x := by first | exact .inl rfl | exact .inr (.inl rfl) | exact .inr (.inr rfl))
    (h1 : (x == ("__debug__" : Str)) = false := by decide) (h2 : (x == ("__classdict__" : Str)) = false := by decide) (hpx : PlainIx b := by exact fun _ _ => rfl) : EV c B (.Subscript (.Name x p1) b pos) sl q (.st d) sl1 := by
  obtain ⟨tb, gb, sb⟩ := hb
  refine ⟨tOp (rIxL c.K) (tVar j) tb, fun X hX => pe_ix (by rw [← hX.hK]; exact ix_list) (pe_var (X := X) (i := j) (pos := p1) (by rw [hX.hN]; exact hN) (hX.v x hv) h1 h2) (gb X hX) hpx, fun S H σ I Q fn => ?_⟩
  obtain ⟨l, el, _, _⟩ := I.own hs0 ho0
  refine ⟨.ref l, el, sb S H σ I _ fun y S2 H2 I2 a2 x2 f2 => ?_⟩
  obtain ⟨l', el', nl, xs, hq, t⟩ := I2.own hs ho
  rw [el] at el'
  cases el'
  have hi := hd
  unfold atI at hi
  obtain ⟨j', hj, hj2⟩ := Option.bind_eq_some_iff.mp hi
  obtain ⟨v, hv, tv⟩ := t.get hj2
  refine ⟨l, xs, i, v, rfl, tr_int x2, .inl (.inl hq), ?_, fn v S2 H2 I2 a2 tv trivial⟩
  unfold atI
  rw [t.len, hj]
  exact hv
end
end Mw

/-! NwZB: a lambda, handed to a def that calls it. -/
namespace Mw
open PySem PySem.Spec L2 PyProof.Rows
open LamX (CodeO TabB LamS lamEnv lamCx lam_start2 inv_table codeO_ne among_app)
section
variable {X : Cx} {pins : List (Addr × Obj)} {σ : L2.St} {H : Hp} {s : Shared}
/-- the lambda is made; all stands -/
theorem lam_mk {T : List (Addr × Str)} {c P : Addr} {params : Arguments} {body : Expr} {scope : Scope} {pos : Pos} {E : Value → Shared → Prop} {Q : Value → Shared → Prop} (I : Inv X pins σ H s) (TB : TabB X.base X.mg c P) (hcode : X.env.code = .ref c)
    (hm : (P, X.env.qual ++ "<lambda>") ∈ T) (hu : ∀ p ∈ T, p.1 = P → p.2 = X.env.qual ++ "<lambda>") (hT : LamX.Tabs T H) (hdef : defaultsOf params X.env = ([], [])) (hfree : ∀ y ∈ scope.names, y.2 = .free → ∃ c, X.env.cells.lookup y.1 = some c)
    (h : ∀ (f c' : Addr) (pm ctv : Value) (H1 : Hp) (s' : Shared), Inv X pins σ H1 s' → Sam H H1 → LamX.Tabs T H1 →
      s'.heap.get? f = some (PySem.W.kla_obj "<lambda>" (X.env.qual ++ "<lambda>") params body scope (cloFrom X.env.cells scope.names []) pm c' ctv) → H1 f = none → f ∉ frs X.stack → H1 c' = some (CodeO c' (X.env.qual ++ "<lambda>")) → Q (.ref f) s') :
    wpAny (model X.prog X.w) X.A (eval (.Lambda params body scope pos) X.env) Q E s := by
  obtain ⟨ps, hP, ht, ha⟩ := hT _ hm
  refine PySem.W.kla_eval hdef ?_
  have bP : s.heap.BuiltinsAt X.mg P := TB.bm.keeps I.bk
  have hP' : s.heap.get? P = some { cls := .none, data := .fields ps } := I.hok P _ hP
  have nofr : ∀ f, s.heap.objs.size ≤ f → f ∉ frs X.stack := fun f hf z => by
    rcases List.mem_cons.mp (I.stkSub _ z) with e | e
    · have h1 := I.lt
      rw [← e] at h1
      exact Nat.lt_irrefl _ (Nat.lt_of_lt_of_le h1 hf)
    · exact I.nofs hf e
  cases hc : codeAmong pos ps.toList with
  | none =>
    refine PySem.W.kla_makeFunction (mg := X.mg) (c := c) (P := P) (ps := ps) (closure_ok hfree) I.ok.glob (I.mod.glob.keeps I.bk) hcode (TB.code.keeps I.bk) hP' ht hc TB.gP bP fun c' ctv h' tk hx hge hlt hrec htb => ?_
    obtain ⟨c2, oc, vs, t, e2, hoc, hd, hv⟩ := hrec
    cases e2
    have hsz : s.heap.objs.size ≤ h'.objs.size := Nat.le_trans hge (Nat.le_of_lt hlt)
    have nC : H c' = none := I.hok.fresh hge
    have I1 := inv_table (t' := tk) (more := #[rawInt pos.line, rawInt pos.col, .ref c']) (h' := h'.push (PySem.W.kla_obj "<lambda>" (X.env.qual ++ "<lambda>") params body scope (cloFrom X.env.cells scope.names []) ((X.mg "__name__").getD .none) c' ctv)) I hP
      (fun b o hb e => Heap.get?_push_of_some _ (hx b o hb e)) (Heap.get?_push_of_some _ htb) hge ⟨oc, vs, t, Heap.get?_push_of_some _ hoc, hd, hv⟩
    have hE : Sam H (upd (upd H P (.tbl (ps ++ #[rawInt pos.line, rawInt pos.col, .ref c']))) c' (CodeO c' (X.env.qual ++ "<lambda>"))) := ⟨fun b o e n => by
      rw [upd_ne (ne_of_none e nC), upd_ne (fun z => n ps (Option.some.inj (e.symm.trans (by rw [z]; exact hP))))]
      exact e, fun b qs e => by
      rw [upd_ne (ne_of_none e nC)]
      by_cases z : b = P
      · rw [z, upd_same]; exact ⟨_, rfl⟩
      · rw [upd_ne z]; exact ⟨_, e⟩⟩
    have eL : (ps ++ #[rawInt pos.line, rawInt pos.col, .ref c']).toList = ps.toList ++ [rawInt pos.line, rawInt pos.col, .ref c'] := by simp
    refine h h'.objs.size c' ((X.mg "__name__").getD .none) ctv _ _ I1 hE (fun p hp => ?_) (Heap.get?_push_size _ rfl) ?_ (nofr _ hsz) upd_same
    · by_cases hb : p.1 = P
      · rw [hu p hp hb, hb]
        refine ⟨_, by rw [upd_ne (ne_of_none hP nC), upd_same], by rw [eL]; exact PySem.TriplesOk_snoc _ _ _ _ ht, fun p' cv hcv => ?_⟩
        rw [eL] at hcv
        rcases among_app _ ht hcv with z | z
        · obtain ⟨c0, e1, e2⟩ := ha p' cv z
          exact ⟨c0, e1, hE.st _ _ e2 codeO_ne⟩
        · exact ⟨c', z, upd_same⟩
      · obtain ⟨ps', a1, a2, a3⟩ := hT p hp
        refine ⟨ps', by rw [upd_ne (ne_of_none a1 nC), upd_ne hb]; exact a1, a2, fun p' cv hcv => ?_⟩
        obtain ⟨c0, e1, e2⟩ := a3 p' cv hcv
        exact ⟨c0, e1, hE.st _ _ e2 codeO_ne⟩
    · have n1 : h'.objs.size ≠ c' := Nat.ne_of_gt hlt
      have n2 : h'.objs.size ≠ P := Nat.ne_of_gt (Nat.lt_of_lt_of_le (Heap.lt_size hP') hsz)
      rw [upd_ne n1, upd_ne n2]
      exact I.hok.fresh hsz
  | some cv =>
    obtain ⟨c', e, hco⟩ := ha pos cv hc
    subst e
    refine PySem.W.kla_makeFunctionHit (mg := X.mg) (c := c) (P := P) (ps := ps) (closure_ok hfree) I.ok.glob (I.mod.glob.keeps I.bk) hcode (TB.code.keeps I.bk) hP' ht hc bP fun ctv h' tk hx hsz => ?_
    have I1 : Inv X pins σ H { s with heap := h'.push (PySem.W.kla_obj "<lambda>" (X.env.qual ++ "<lambda>") params body scope (cloFrom X.env.cells scope.names []) ((X.mg "__name__").getD .none) c' ctv), toks := tk } := I.kept fun b o e => Heap.get?_push_of_some _ (hx b o e)
    exact h h'.objs.size c' ((X.mg "__name__").getD .none) ctv H _ I1 (Sam.refl H) hT (Heap.get?_push_size _ rfl) (I.hok.fresh hsz) (nofr _ hsz) hco
end
/-! ### what is asked of a(), in the def that got the function -/
/-- in the context X, a() gives what tl tells -/
def ActOf (f c' : Addr) (q : Str) (tl : XK → Hp → VK → Prop) (i : Nat) (a : Str) : Cx → Prop := fun X => ∀ (W : WX) (p1 p2 : Pos), Takes X W → PE X (.Call (.Name a p1) [] [] p2) (fun σZ HZ Q => σZ[i]? = some (some (.ref f)) ∧ HZ c' = some (CodeO c' q) ∧ tl (fun cls d H' => W cls d σZ H') HZ Q)
section
variable {X : Cx} {pins : List (Addr × Obj)} {σ : L2.St} {H : Hp} {s : Shared}
theorem pe_ask {E0 : XK} {Ng : List Str} {qg : Str} {sg : Scope} {g f c' : Addr} {cdg pm ctv : Value} {params : Arguments} {body : Expr} {scope : Scope} {k i : Nat} {a : Str} {pn : List (Addr × Obj)} {xe : Value → Shared → Prop} {tb : XK → TE}
    (I : Inv X pins σ H s) (L : LamS X.env.scope scope) (hf : s.heap.get? f = some (PySem.W.kla_obj "<lambda>" (X.env.qual ++ "<lambda>") params body scope (cloFrom X.env.cells scope.names []) pm c' ctv)) (hfn : H f = none) (hfr : f ∉ frs X.stack)
    (hbind : bindArgs (PySem.W.kla_fn "<lambda>" (X.env.qual ++ "<lambda>") params body scope (cloFrom X.env.cells scope.names []) pm (.ref c') ctv) ⟨[], []⟩ = pure [])
    (hr : Room (k + 1) (X.A.deeper (envOfC qg sg s.heap.objs.size g cdg)))
    (hbody : ∀ (E : XK) (s2 : Shared) (H : Hp), Room k ((X.A.deeper (envOfC qg sg s.heap.objs.size g cdg)).deeper (lamEnv X scope s2.heap.objs.size f c')) → PE (lamCx X (X.A.deeper (envOfC qg sg s.heap.objs.size g cdg)) (envOfC qg sg s.heap.objs.size g cdg :: X.stack) s2 H E scope f c') body (tb E))
    (hN : Ng[i]? = some a) (hv : Vis sg a) (hd : (a == ("__debug__" : Str)) = false) (hcd : (a == ("__classdict__" : Str)) = false) :
    ActOf f c' (X.env.qual ++ "<lambda>") (fun E HZ Q => tb E σ HZ Q) i a ((cxOf (L2.CX X.prog X.w) X.prog X.w X.K X.mg X.base Ng qg sg g cdg X.A X.stack s H E0).tr pn xe) := by
  intro W p1 p2 tk
  refine ⟨fun pinsZ sZ σZ HZ Q IZ h => ?_⟩
  obtain ⟨hs, hc, ht⟩ := h
  refine wpAny_Call_Name_kw (thn ((pe_var (pos := p1) (i := i) hN hv hd hcd).run pinsZ sZ σZ HZ (fun v H1 => v = .ref f ∧ H1 = HZ) IZ ⟨.ref f, hs, rfl, rfl⟩) fun u s1 ⟨v, H1, I1, r1, q1⟩ => ?_)
  obtain ⟨ev, eH⟩ := q1
  subst ev
  rw [eH] at I1
  obtain rfl : u = Value.ref f := r1
  have of1 : s1.heap.get? f = some (PySem.W.kla_obj "<lambda>" (X.env.qual ++ "<lambda>") params body scope (cloFrom X.env.cells scope.names []) pm c' ctv) := I1.base.keep f _ hf hfn hfr (fun z => nomatch (show f ∈ ([] : List Addr) from z))
  refine PySem.W.callWith_F0 ⟨_, _, _, _, of1⟩ ?_
  have un : Un (frs X.stack) [] H HZ s.heap s1.heap := I1.base
  obtain ⟨⟨oc, vs, t, hoc, hdc, hvc⟩, _, _⟩ := I1.hok c' _ hc
  have rc : codeAny (model X.prog X.w) (X.A.deeper (envOfC qg sg s.heap.objs.size g cdg)) (.call (.ref f) ⟨[], []⟩) (CR (L2.CX X.prog X.w) (envOfC qg sg s.heap.objs.size g cdg :: X.stack) X.prog X.w HZ s1 Q fun cls d H' => W cls d σZ H') s1 := by
    refine PySem.W.kla_callFunE hr.depth of1 rfl L.co L.gen rfl ⟨c', oc, vs, t, rfl, hoc, hdc, hvc⟩ ?_
    rw [hbind]
    refine wpAny_pure (wpAny_newFunctionEnv (fun y hy => (L.own y hy).2) (fun y hy => absurd hy (by simp)) (fun h₁ hns hsb => ⟨I1.nolimit.fresh _ hsb, ?_⟩) L.kind)
    show codeAny _ _ (.expr body (lamEnv X scope s1.heap.objs.size f c')) _ _
    have kp : ∀ b o, s1.heap.get? b = some o → h₁.get? b = some o := fun b o e => hsb.extBut b o (Nat.ne_of_lt (Heap.lt_size e)) (Heap.get?_push_of_some _ e)
    have J : Inv (lamCx X (X.A.deeper (envOfC qg sg s.heap.objs.size g cdg)) (envOfC qg sg s.heap.objs.size g cdg :: X.stack) s1 HZ (fun cls d H' => W cls d σZ H') scope f c') [] σ HZ { s1 with heap := h₁, toks := s1.toks + ([] : List (Str × Value)).length } :=
      lam_start2 I L I1.env0 hr.hd un hns kp
    refine PySem.W.kla_codeExpr (wpAny_mono ((hbody _ s1 HZ (hr.deeper _)).run [] _ _ HZ Q J ht) (fun v s' hq => ?_) fun e s' hq => hq)
    obtain ⟨w', H', J', rv, q⟩ := hq
    exact ⟨w', H', J'.os, J'.bare, J'.base, J'.hok, rv, q⟩
  refine wpAny_call (codeAny_mono rc fun r s' hq => ?_)
  cases r with
  | error e => exact tk e s' (XE.of_call I1 (fun cls d H' z => z) hq)
  | ok fl =>
    cases fl with
    | ret u => exact I1.after hq
    | next => exact False.elim hq
    | brk => exact False.elim hq
    | cont => exact False.elim hq
end
variable [Tb]
/-- what tl gives in any later state of the base B: u -/
def AskB (K : PySem.W.Frag) (mg : Str → Option Value) (B : Bs) (u : Out) (tl : XK → Hp → VK → Prop) : Prop := ∀ S1 H1 σ sl, Stt K B S1 H1 σ sl → match u with
  | .ret k => ∀ (E : XK) (Q : VK), (∀ v S2 H2, Stt K B S2 H2 σ sl → Adv σ sl S1 H1 sl S2 H2 true → KdOk K B σ sl S2 H2 v k → Q v H2) → tl E H1 Q
  | .exn z => ∀ (E : XK) (Q : VK), (∀ cls dx S2 H2, Stt K B S2 H2 σ sl → Adv σ sl S1 H1 sl S2 H2 true → ExnOk K mg S2 cls dx z → E cls dx H2) → tl E H1 Q
/-- f, handed in as a, gives u when it is called -/
structure Got (c : CxD) (B : Bs) (a : Str) (f : Addr) (u : Out) : Prop where
  ex : ∃ (c' : Addr) (q : Str) (tl : XK → Hp → VK → Prop), c.xt.ext = ActOf f c' q tl 0 a ∧ B.H0 c' = some (CodeO c' q) ∧ B.ls = [] ∧ AskB c.K c.mg B u tl
section
variable {c : CxD} {B : Bs} {sl : List Sl} {a : Str} {f : Addr} {p1 p2 : Pos}
theorem Got.w {u : Out} (G : Got c B a f u) (W : WX) : Got { c with W := W } B a f u := ⟨G.ex⟩
theorem xv_ask {z : Exn} (G : Got c B a f (.exn z)) (hs : sl[0]? = some (.raw (.ref f)) := by rfl) : XV c B (.Call (.Name a p1) [] [] p2) sl true z sl := by
  obtain ⟨c', q, tl, hx, hc, hl, hA⟩ := G.ex
  refine ⟨fun σ H Q => σ[0]? = some (some (.ref f)) ∧ H c' = some (CodeO c' q) ∧ tl (fun cls d H' => c.W cls d σ H') H Q, fun X hX => ?_, fun S H σ I w Q => ⟨I.raw hs, I.keep c' _ hc (by rw [hl]; simp) codeO_ne, hA S H σ sl I _ Q fun cls dx S2 H2 I2 a2 hz => w S2 H2 cls dx a2 I2 hz⟩⟩
  have h := hX.xt X.pn X.xe
  rw [hx] at h
  exact h c.W p1 p2 hX.tk
theorem ev_ask {d : PyData} (G : Got c B a f (.ret (.st d))) (hs : sl[0]? = some (.raw (.ref f)) := by rfl) : EV c B (.Call (.Name a p1) [] [] p2) sl true (.st d) sl := by
  obtain ⟨c', q, tl, hx, hc, hl, hA⟩ := G.ex
  refine ⟨fun σ H Q => σ[0]? = some (some (.ref f)) ∧ H c' = some (CodeO c' q) ∧ tl (fun cls d H' => c.W cls d σ H') H Q, fun X hX => ?_, fun S H σ I Q fn => ⟨I.raw hs, I.keep c' _ hc (by rw [hl]; simp) codeO_ne, hA S H σ sl I _ Q fun v S2 H2 I2 a2 hv => fn v S2 H2 I2 a2 hv trivial⟩⟩
  have h := hX.xt X.pn X.xe
  rw [hx] at h
  exact h c.W p1 p2 hX.tk
end
/-! ### a def that calls what it got -/
def Tell (P : Program) (w : World) (K : PySem.W.Frag) (mg : Str → Option Value) (base : Heap) (x : Str) (st : Stmt) (a : Str) (k : Nat) (pre : Out → Prop) (res : Out → PyData) : Prop :=
  ∃ (g : Addr) (fd : FuncData) (Ng : List Str), mg x = some (.ref g) ∧ Fun K x x st g fd ∧ Binds K fd [a] [] ∧ Ng[0]? = some a ∧ Vis (defScope st) a ∧
    ∀ (A : Around) (outer : List Env) (s : Shared) (H S : Hp) (f c' : Addr) (q : Str) (tl : XK → Hp → VK → Prop) (u : Out) (Q : VK), pre u → Room (k + 1) A → A.guards = some [] → Env0 P w K mg base A outer s H →
      (∀ (E0 : XK) (pn : List (Addr × Obj)) (xe : Value → Shared → Prop), ActOf f c' q tl 0 a ((cxOf (L2.CX P w) P w K mg base Ng x (defScope st) g fd.code A outer s H E0).tr pn xe)) →
      H c' = some (CodeO c' q) → Stt K ⟨S, H, []⟩ S H [some (.ref f)] [.raw (.ref f)] → AskB K mg ⟨S, H, []⟩ u tl →
      (∀ v S' H', Stt K ⟨S, H, []⟩ S' H' [some (.ref f)] [.raw (.ref f)] → Tr K S' v (res u) → Q v H') →
      codeAny (model P w) A (.call (.ref g) ⟨[.ref f], []⟩) (CR (L2.CX P w) outer P w H s Q fun _ _ _ => False) s
theorem tell_of {P : Program} {w : World} {K : PySem.W.Frag} {mg : Str → Option Value} {base : Heap} {x a : Str} {st : Stmt} {g : Addr} {fd : FuncData} {Ng : List Str} {k : Nat} {pre : Out → Prop} {res : Out → PyData} (hm : mg x = some (.ref g)) (F : Fun K x x st g fd) (hb : Binds K fd [a] []) (Sc : FnScope Ng [a] (defScope st)) (hN : Ng[0]? = some a) (hv : Vis (defScope st) a)
    (body : ∀ (B : Bs) (X0 : Xt) (f : Addr) (u : Out), pre u → Got ⟨P, w, K, mg, base, Ng, defScope st, k, fun _ _ _ _ => False, true, X0⟩ B a f u → GO ⟨P, w, K, mg, base, Ng, defScope st, k, fun _ _ _ _ => False, true, X0⟩ B (defBody st) (pad [.raw (.ref f)] Ng.length) (retP (.st (res u)))) : Tell P w K mg base x st a k pre res := by
  refine ⟨g, fd, Ng, hm, F, hb, hN, hv, ?_⟩
  intro A outer s H S f c' q tl u Q hu hr hgu e0 act hc I0 hA hQ
  obtain ⟨oc, od, kV, doc, pm, an, cdv, ct, osl, rfl, lk, hcd⟩ := F.ex
  have KX : K.In s.heap := e0.mod.kin.keeps fun b o e => (e0.bs b o e).1
  have lim : s.heap.NoLimit := e0.mod.nolimit.keeps fun b o e => (e0.bs b o e).1
  have r : Vals [V.ref f] [Value.ref f] := .cons rfl .nil
  refine codeAny_call_function hr.depth (KX _ _ lk) rfl Sc.co Sc.gen rfl (PySem.W.codeRec_of KX hcd) (hb s [.ref f] KX rfl _ _ _ _ ?_)
  refine wpAny_newFunctionEnv_cells Sc.kind (fun ⟨n, v⟩ hy => ?_) fun env he s1 x1 => ?_
  · rcases Sc.par n (List.of_mem_zip hy).1 with q | q
    · exact .inl q
    · exact .inr ⟨q, PySem.W.cellsFrom_some _ _ _ (.inl q)⟩
  · subst he
    refine ⟨lim.keeps x1.toInCall.keep, codeAny_func ?_⟩
    have I : Inv (cxOf (L2.CX P w) P w K mg base Ng x (defScope st) g cdv A outer s H fun _ _ _ => False) [] (start Ng [V.ref f]) H s1 := inv_start Sc hr.hd e0 rfl r x1
    have hX : InCx ⟨P, w, K, mg, base, Ng, defScope st, k, fun _ _ _ _ => False, true, ⟨cdv, x ++ ".<locals>.", ActOf f c' q tl 0 a⟩⟩ (cxOf (L2.CX P w) P w K mg base Ng x (defScope st) g cdv A outer s H fun _ _ _ => False) :=
      ⟨rfl, rfl, rfl, rfl, rfl, rfl, rfl, Sc.kind, hgu, hr.deeper _, fun _ h => h, fun _ h => h, fun _ h => h, fun _ h => h, fun _ h => ⟨h, rfl⟩, passes_of rfl, takes_of (E := fun _ _ _ => False) rfl rfl rfl rfl, fun _ => ⟨rfl, rfl, rfl⟩, rfl, rfl, fun pn xe => act _ pn xe⟩
    obtain ⟨t, ht, sem⟩ := body ⟨S, H, []⟩ ⟨cdv, x ++ ".<locals>.", ActOf f c' q tl 0 a⟩ f u hu ⟨c', q, tl, rfl, hc, rfl, hA⟩
    have shp : Shp [Sl.raw (.ref f)] [Sl.raw (.ref f)] := plain_shp rfl
    have fin : ∀ {σ' : L2.St} {sl' : List Sl} {S' H' : Hp}, Stt K ⟨S, H, []⟩ S' H' σ' sl' → Stt K ⟨S, H, []⟩ S' H' [some (.ref f)] [.raw (.ref f)] := fun J => args_back I0 shp J fun i j o e => absurd e (plain_io rfl)
    have hN1 : 1 ≤ Ng.length := by have := (List.getElem?_eq_some_iff.mp hN).1; omega
    have hq := sem S H (start Ng [V.ref f]) (start_stt (vs := [V.ref f]) (by show 1 ≤ _; omega) I0) { nx := fun _ H' => Q .non H', rt := Q } ⟨fun S' H' σ' sl' s I' h0 => (by
        have h0 : Kd.st (res u) = .st .none := h0
        refine hQ .non S' H' (fin I') ?_
        rw [Kd.st.inj h0]; exact .non), fun S' H' σ' sl' v k' s I' x h0 => (by
        have h0 : k' = Kd.st (res u) := h0
        subst h0
        exact hQ v S' H' (fin I') x), fun S' H' σ' sl' s I' z => False.elim z, fun S' H' σ' sl' s I' z => False.elim z, fun S' H' σ' sl' cls dx x s I' z h0 => False.elim h0⟩
    refine wpAny_mono ((ht _ hX).run [] s1 (start Ng [V.ref f]) H _ I hq) (fun fl s' hs => ?_) fun e s' hs => hs
    cases fl with
    | ret u =>
      obtain ⟨v, σ', H', J, rv, q⟩ := hs
      exact ⟨v, H', J.os, J.bare, J.base, J.hok, rv, q⟩
    | next =>
      obtain ⟨σ', H', J, q⟩ := hs
      exact ⟨V.non, H', J.os, J.bare, J.base, J.hok, rfl, q⟩
    | brk =>
      obtain ⟨_, _, _, q⟩ := hs
      exact False.elim q
    | cont =>
      obtain ⟨_, _, _, q⟩ := hs
      exact False.elim q
/-! ### the lambda, where it is made -/
/-- the context of a lambda's body -/
abbrev CxD.lam (c : CxD) (scope : Scope) (k : Nat) (E : XK) (X0 : Xt) : CxD := { c with sc := scope, lv := k, W := fun cls d _ H => E cls d H, top := false, xt := X0 }
/-- what a lambda's body gives: u -/
def LamB (c : CxD) (B : Bs) (e : Expr) (sl : List Sl) (u : Out) : Prop := ∃ te, (∀ X, InCx c X → PE X e te) ∧ ∀ S H σ, Stt c.K B S H σ sl → match u with
  | .ret k => ∀ Q : VK, (∀ v S2 H2, Stt c.K B S2 H2 σ sl → Adv σ sl S H sl S2 H2 true → KdOk c.K B σ sl S2 H2 v k → Q v H2) → te σ H Q
  | .exn z => ∀ Q : VK, (∀ cls dx S2 H2, Stt c.K B S2 H2 σ sl → Adv σ sl S H sl S2 H2 true → ExnOk c.K c.mg S2 cls dx z → c.W cls dx σ H2) → te σ H Q
theorem lamB_ret {c : CxD} {B : Bs} {e : Expr} {sl : List Sl} {d : PyData} (h : EV c B e sl true (.st d) sl) : LamB c B e sl (.ret (.st d)) := by
  obtain ⟨te, ge, se⟩ := h
  exact ⟨te, ge, fun S H σ I Q q => se S H σ I Q fun v S2 H2 I2 a2 x2 _ => q v S2 H2 I2 a2 x2⟩
theorem lamB_exn {c : CxD} {B : Bs} {e : Expr} {sl : List Sl} {z : Exn} (h : XV c B e sl true z sl) : LamB c B e sl (.exn z) := by
  obtain ⟨te, ge, se⟩ := h
  exact ⟨te, ge, fun S H σ I Q q => se S H σ I (fun S2 H2 cls dx a2 I2 hz => q cls dx S2 H2 I2 a2 hz) Q⟩
/-- the table of the code object in which a lambda is made -/
def TabOf (base : Heap) (mg : Str → Option Value) (cd : Value) (q : Str) : Prop := ∃ cA P : Addr, cd = .ref cA ∧ TabB base mg cA P ∧ (P, q ++ "<lambda>") ∈ Tb.T ∧ ∀ p ∈ Tb.T, p.1 = P → p.2 = q ++ "<lambda>"
section
variable {c : CxD} {B : Bs} {sl : List Sl}
theorem ask_back {Bo : Bs} {S H : Hp} {σo : L2.St} {K : PySem.W.Frag} {mg : Str → Option Value} {u : Out} {tl : XK → Hp → VK → Prop} (hu : ∀ k, u = .ret k → ∃ d, k = .st d) (I : Stt K Bo S H σo sl)
    (h : ∀ S1 H1, Stt K Bo S1 H1 σo sl → match u with
      | .ret k => ∀ (E : XK) (Q : VK), (∀ v S2 H2, Stt K Bo S2 H2 σo sl → Adv σo sl S1 H1 sl S2 H2 true → KdOk K Bo σo sl S2 H2 v k → Q v H2) → tl E H1 Q
      | .exn z => ∀ (E : XK) (Q : VK), (∀ cls dx S2 H2, Stt K Bo S2 H2 σo sl → Adv σo sl S1 H1 sl S2 H2 true → ExnOk K mg S2 cls dx z → E cls dx H2) → tl E H1 Q) : AskB K mg ⟨S, H, []⟩ u tl := by
  intro S1 H1 σ sl1 J
  obtain ⟨I1, a1⟩ := back0 I J
  have h1 := h S1 H1 I1
  have up : ∀ {S2 H2}, Stt K Bo S2 H2 σo sl → Adv σo sl S1 H1 sl S2 H2 true → Stt K ⟨S, H, []⟩ S2 H2 σ sl1 ∧ Adv σ sl1 S1 H1 sl1 S2 H2 true := fun {S2 H2} I2 a2 =>
    ⟨J.growS a2.s (a2.h rfl) I2.sh a2.n I2.tabs I2.snt, a2.s, a2.n, fun a o e => (a2.h rfl).dom e, fun a o e ht _ => (a2.h rfl).st _ _ e ht, fun _ => a2.h rfl, fun _ h => h⟩
  cases u with
  | ret k =>
    obtain ⟨d, rfl⟩ := hu k rfl
    exact fun E Q q => h1 E Q fun v S2 H2 I2 a2 x2 => q v S2 H2 (up I2 a2).1 (up I2 a2).2 x2
  | exn z => exact fun E Q q => h1 E Q fun cls dx S2 H2 I2 a2 hz => q cls dx S2 H2 (up I2 a2).1 (up I2 a2).2 hz
/-- x(lambda: body) -/
theorem ev_tell {x a : Str} {st : Stmt} {k : Nat} {pre : Out → Prop} {res : Out → PyData} {params : Arguments} {body : Expr} {scope : Scope} {p lpos pos : Pos} {P : Program} {w : World} {K : PySem.W.Frag} {mg : Str → Option Value} {base : Heap} (u : Out) (F : Tell P w K mg base x st a k pre res) (hu : pre u) (hu2 : ∀ k, u = .ret k → ∃ d, k = .st d)
    (hT : TabOf c.base c.mg c.xt.cd c.xt.ql) (hb : ∀ E X0, LamB (c.lam scope k E X0) B body sl u) (hc : Tell P w K mg base x st a k pre res → Tell c.P c.w c.K c.mg c.base x st a k pre res := by exact fun h => h) (hlv : k + 2 ≤ c.lv := by exact Nat.le_of_ble_eq_true rfl) (hL : LamX.lamSB c.sc scope = true := by (try dsimp only [CxD.blk]); decide +kernel) (hg : c.sc.names.lookup x = some .globalImplicit := by rfl)
    (hdb : (x == ("__debug__" : Str)) = false := by decide) (hda : (a == ("__debug__" : Str)) = false := by decide) (hca : (a == ("__classdict__" : Str)) = false := by decide) (hdef : ∀ env, defaultsOf params env = ([], []) := by intro _; rfl)
    (hbind : ∀ (q : Str) (cl : List (Str × Addr)) (pm cv ctv : Value), bindArgs (PySem.W.kla_fn "<lambda>" q params body scope cl pm cv ctv) ⟨[], []⟩ = pure [] := by intro _ _ _ _ _; rfl) : EV c B (.Call (.Name x p) [.Lambda params body scope lpos] [] pos) sl true (.st (res u)) sl := by
  obtain ⟨g, fd, Ng, hm, hF, hbd, hN, hv, G⟩ := hc F
  obtain ⟨cA, PT, hcd, TB, hmT, hu1⟩ := hT
  have LS := LamX.lamS_by hL
  have hb2 : ∀ (c' : Addr) (E : XK), LamB (c.lam scope k E ⟨.ref c', c.xt.ql ++ "<lambda>" ++ ".<locals>.", fun _ => True⟩) B body sl u := fun c' E => hb E _
  let tb : Addr → XK → TE := fun c' E => (hb2 c' E).choose
  have tb1 : ∀ c' E X, InCx (c.lam scope k E ⟨.ref c', c.xt.ql ++ "<lambda>" ++ ".<locals>.", fun _ => True⟩) X → PE X body (tb c' E) := fun c' E => (hb2 c' E).choose_spec.1
  refine ⟨fun σ H Q => LamX.Tabs Tb.T H ∧ ∀ (f c' : Addr) (H1 : Hp), Sam H H1 → LamX.Tabs Tb.T H1 → H1 f = none → H1 c' = some (CodeO c' (c.xt.ql ++ "<lambda>")) → ∃ S, Stt c.K ⟨S, H1, []⟩ S H1 [some (.ref f)] [.raw (.ref f)] ∧ AskB c.K c.mg ⟨S, H1, []⟩ u (fun E HZ Q => tb c' E σ HZ Q) ∧
      ∀ v S' H', Stt c.K ⟨S, H1, []⟩ S' H' [some (.ref f)] [.raw (.ref f)] → Tr c.K S' v (res u) → Q v H', fun X hX => ⟨fun pins s σ H Q I h => ?_⟩, fun S H σ I Q fn => ⟨I.tabs, fun f c' H1 h1 t1 hf hco => ?_⟩⟩
  · obtain ⟨hTb, h⟩ := h
    have L : LamS X.env.scope scope := ⟨LS.kind, LS.co, LS.gen, LS.own, fun y hy e => hX.f y.1 (LS.free y hy e)⟩
    have kp : PySem.W.keepIn X.K (.ref g) = true := by rw [hX.hK]; exact hF.kp
    refine wpAny_Call_Name_kw (ld_glob I (hX.g x hg) (by rw [hX.hm]; exact hm) ?_ hdb)
    refine PySem.W.callWith_K (h₀ := X.base) I.ok.mod.kin kp ?_ (by rfl) (by rfl)
    show wpAny _ _ (spliced ((false, eval (.Lambda params body scope lpos) X.env) :: backTo pos (starEach [] X.env))) _ _ s
    refine Calls.spliced_cons (lam_mk I (by rw [hX.hb, hX.hm]; exact TB) (hX.cd.trans hcd) (by rw [hX.ql]; exact hmT) (by rw [hX.ql]; exact hu1) hTb (hdef _) (L.has I.ok) fun f c' pm' ctv H1 s' I1 eN T1 hf hfn hfr hco => ?_)
    refine Calls.spliced_nil ⟨I1.kIn, ?_⟩
    rw [hX.ql] at hco
    obtain ⟨S, I0, hA, hQ⟩ := h f c' H1 eN T1 hfn hco
    have hr : Room (k + 2) X.A := hX.rm.mono hlv
    have act : ∀ (E0 : XK) (pn : List (Addr × Obj)) (xe : Value → Shared → Prop), ActOf f c' (c.xt.ql ++ "<lambda>") (fun E HZ Q => tb c' E σ HZ Q) 0 a ((cxOf (L2.CX X.prog X.w) X.prog X.w X.K X.mg X.base Ng x (defScope st) g fd.code X.A X.stack s' H1 E0).tr pn xe) := fun E0 pn xe => by
      have := pe_ask (E0 := E0) (pn := pn) (xe := xe) (tb := tb c') (k := k) (qg := x) (sg := defScope st) (g := g) (cdg := fd.code) I1 L hf hfn hfr (hbind _ _ _ _ _) (hr.deeper _) (fun E s2 H2 hr2 => tb1 c' E _ ?_) hN hv hda hca
      · rwa [hX.ql] at this
      · exact ⟨hX.hP, hX.hw, hX.hK, hX.hm, hX.hb, hX.hN, rfl, LS.kind, hX.gu, hr2, fun _ h => h, fun _ h => h, fun _ h => h, fun _ h => h, fun y hy => absurd rfl (LS.own _ (PySem.mem_of_lookup hy)).2, passes_of rfl, takes_of rfl rfl rfl rfl, (fun z => nomatch z), rfl, (by rw [← hX.ql]; rfl), fun _ _ => trivial⟩
    have rc : codeAny (model X.prog X.w) X.A (.call (.ref g) ⟨[.ref f], []⟩) (CR (L2.CX X.prog X.w) X.stack X.prog X.w H1 s' Q fun _ _ _ => False) s' := by
      have e0 : Env0 X.prog X.w X.K X.mg X.base X.A X.stack s' H1 := I1.env0
      rw [hX.hP, hX.hw, hX.hK, hX.hm, hX.hb] at e0 act
      rw [hX.hP, hX.hw]
      exact G X.A X.stack s' H1 S f c' _ _ u Q hu (hr.mono (by omega)) hX.gu e0 act hco I0 hA hQ
    refine wpAny_call (codeAny_mono rc fun r s2 hq => ?_)
    cases r with
    | error e =>
      obtain ⟨_, _, _, _, _, _, _, _, _, _, _, _, z⟩ := hq
      exact z.elim
    | ok fl =>
      cases fl with
      | ret u => exact I1.after hq
      | next => exact False.elim hq
      | brk => exact False.elim hq
      | cont => exact False.elim hq
  · have I1 : Stt c.K B S H1 σ sl := I.growS (.refl _) h1 (fun b o e => h1.st _ _ (I.sh _ _ e) fun ps z => I.snt b ps (by rw [e, z])) (fun b o e1 e2 => by rw [e1] at e2; cases e2) t1 I.snt
    have I0 : Stt c.K ⟨S, H1, []⟩ S H1 [some (.ref f)] [.raw (.ref f)] := by
      refine ⟨.refl _, I1.sh, fun b o h1 h2 => (by have h3 : S b = none := h2; rw [h1] at h3; cases h3), fun b o e _ _ => e, fun b o e => ⟨o, e⟩, fun l h => absurd h (by simp), rfl, fun i s e => ?_, fun i j b y1 y2 => ?_, t1, (fun b ps e => ⟨ps, e⟩), I.snt, I1.sm0⟩
      · cases i with
        | zero =>
          simp at e
          subst e
          exact ⟨_, rfl, rfl⟩
        | succ i => simp at e
      · obtain ⟨s, x, b1, b2, b3⟩ := y1
        cases i with
        | zero => simp at b1; subst b1; exact absurd b3 fpS_raw
        | succ i => simp at b1
    refine ⟨S, I0, ask_back hu2 I1 fun S2 H2 I2 => ?_, fun v S' H' J hv => ?_⟩
    · have key : ∀ E, _ := fun E => (hb2 c' E).choose_spec.2 S2 H2 σ I2
      cases u with
      | ret kk => exact fun E Q q => key E Q q
      | exn z => exact fun E Q q => key E Q q
    · obtain ⟨I2, a2⟩ := back0 I1 J
      have a1 : Adv σ sl S H sl S H1 true := ⟨.refl _, fun b o e1 e2 => (by rw [e1] at e2; cases e2), fun b o e => h1.dom e, fun b o e ht _ => h1.st _ _ e ht, fun _ => h1, fun _ h => h⟩
      exact fn v S' H' I2 (a1.trans a2) hv trivial
end
end Mw

/-! NwZC: the end of a law whose defs make lambdas. -/
namespace Mw
open PySem PySem.Spec L2
open LamX (TabB)
variable [Tb]
/-- which heaps a law's call may start from; cs: the code objects and their tables -/
structure EntryT (K : PySem.W.Frag) (P : Program) (w : World) (S H : Hp) (h : Heap) (a : Addr) (ns : List Int) (cs : List (Addr × Addr)) : Prop where
  tb : ∀ p ∈ cs, H p.2 = some (.tbl #[])
  only : ∀ b, H b = none ∨ b ∈ cs.map (·.2) ∨ ∃ o xs, H b = some (.frz o (.lst xs))
  sq : SqL K S a (ns.map V.int)
  sh : Same S H
  nt : NoT S
  ok : HOk P w H h
  at1 : ∀ b, H b ≠ none → b = a ∨ b ∈ cs.map (·.2)
  off : H a ≠ none → K.lookup a = none
theorem entryT_of {K : PySem.W.Frag} {P : Program} {w : World} {h : Heap} {a : Addr} {vs : List Value} {ns : List Int} {cs : List (Addr × Addr)} (KX : K.In h) (hT : ∀ p ∈ cs, h.get? p.2 = some { cls := .none, data := .fields #[] }) (ha : h.get? a = some { cls := .type "list", data := .seq vs.toArray }) (hi : PyProof.Rows.IntsAre vs ns) (hl : ns.length ≤ sizeLine) : ∃ S H, EntryT K P w S H h a ns cs := by
  have rv := vals_ints hi
  have isT : ∀ b : Addr, b ∈ cs.map (·.2) → h.get? b = some { cls := .none, data := .fields #[] } := fun b hb => by
    obtain ⟨p, hp, e⟩ := List.mem_map.mp hb
    rw [← e]
    exact hT p hp
  have aT : a ∉ cs.map (·.2) := fun z => by
    have q := isT a z
    rw [ha] at q
    have z' : Data.seq vs.toArray _ = Data.fields #[] := congrArg Obj.data (Option.some.inj q)
    cases z'
  have memT : ∀ p ∈ cs, p.2 ∈ cs.map (·.2) := fun p hp => List.mem_map.mpr ⟨p, hp, rfl⟩
  cases hk : K.lookup a with
  | some o =>
    have e := KX a o hk
    rw [ha] at e
    cases e
    refine ⟨fun _ => none, fun b => if b ∈ cs.map (·.2) then some (.tbl #[]) else none, fun p hp => if_pos (memT p hp), fun b => ?_, .inr ⟨_, vs.toArray, _, hk, rfl, rfl, rfl, ?_, by simpa using rv⟩, (fun b o z => nomatch z), (fun b ps z => nomatch z), fun b u z => ?_, fun b z => ?_, fun z => absurd (show (if a ∈ cs.map (·.2) then some (HO.tbl #[]) else none) = none from if_neg aT) z⟩
    · by_cases hb : b ∈ cs.map (·.2)
      · exact .inr (.inl hb)
      · exact .inl (if_neg hb)
    · rw [List.size_toArray, hi.length]; exact hl
    · by_cases hb : b ∈ cs.map (·.2)
      · have z' := (if_pos hb).symm.trans z
        cases z'
        exact isT b hb
      · have z' := (if_neg hb).symm.trans z
        cases z'
    · by_cases hb : b ∈ cs.map (·.2)
      · exact .inr hb
      · exact absurd (if_neg hb) z
  | none =>
    let F : HO := .frz { cls := .type "list", data := .seq vs.toArray } (.lst (ns.map V.int))
    have at0 : (fun b => if b = a then some F else none : Hp) a = some F := if_pos rfl
    refine ⟨fun b => if b = a then some F else none, fun b => if b = a then some F else if b ∈ cs.map (·.2) then some (.tbl #[]) else none, fun p hp => (if_neg (show ¬ p.2 = a from fun z => aT (by rw [← z]; exact memT p hp))).trans (if_pos (memT p hp)), fun b => ?_, .inl (.inr ⟨_, at0⟩), fun b o z => ?_, fun b ps z => ?_, fun b u z => ?_, fun b z => ?_, fun _ => hk⟩
    · by_cases hb : b = a
      · exact .inr (.inr ⟨_, _, if_pos hb⟩)
      · by_cases hb2 : b ∈ cs.map (·.2)
        · exact .inr (.inl hb2)
        · exact .inl ((if_neg hb).trans (if_neg hb2))
    · by_cases hb : b = a
      · exact (if_pos hb).trans ((if_pos hb).symm.trans z)
      · have z' := (if_neg hb).symm.trans z
        cases z'
    · by_cases hb : b = a
      · have z' : some (HO.frz _ _) = some (HO.tbl ps) := (if_pos hb).symm.trans z
        cases z'
      · have z' := (if_neg hb).symm.trans z
        cases z'
    · by_cases hb : b = a
      · have z' := (if_pos hb).symm.trans z
        cases z'
        rw [hb]
        exact ⟨ha, by rw [List.length_map]; exact hl, vs, _, rv, ha⟩
      · have z1 := (if_neg hb).symm.trans z
        by_cases hb2 : b ∈ cs.map (·.2)
        · have z' := (if_pos hb2).symm.trans z1
          cases z'
          exact isT b hb2
        · have z' := (if_neg hb2).symm.trans z1
          cases z'
    · by_cases hb : b = a
      · exact .inl hb
      · by_cases hb2 : b ∈ cs.map (·.2)
        · exact .inr hb2
        · exact absurd ((if_neg hb).trans (if_neg hb2)) z
theorem law_runT {P : Program} {w : World} {K : PySem.W.Frag} {mg mb : Str → Option Value} {k n : Nat} {fa a : Addr} {cs : List (Addr × Addr)} {fd : FuncData} {x : Str} {s1 : Shared} {vs : List Value} {ns : List Int} (hTb : ∀ p ∈ Tb.T, ∃ q ∈ cs, q.2 = p.1) (KX : K.In s1.heap) (hns : s1.heap.Ns mainGlobals mg) (hb : s1.heap.Ns builtinsNs mb)
    (hbb : ∀ x : Str, x ≠ "__name__" → mb x = bootBuiltins x) (hlim : s1.heap.NoLimit) (hsm : ∃ mm, s1.heap.Ns sysModules mm) (nS : K.lookup sysModules = none) (hg : s1.gens = #[])
    (hT : ∀ p ∈ cs, s1.heap.get? p.2 = some { cls := .none, data := .fields #[] }) (nT : ∀ p ∈ cs, K.lookup p.2 = none) (C : ∀ p ∈ cs, PySem.W.CodeHd s1.heap p.1 p.2)
    (hbm : ∃ (bm : Addr) (ob : Obj), mg "__builtins__" = some (.ref bm) ∧ bm ≠ builtinsNs ∧ s1.heap.get? bm = some ob ∧ ob.cls = .type "module" ∧ ob.dict = some builtinsNs ∧ ob.data = .plain)
    (ha : s1.heap.get? a = some { cls := .type "list", data := .seq vs.toArray }) (hi : PyProof.Rows.IntsAre vs ns) (hn : ns.length ≤ n) (hl : n ≤ sizeLine) (hr : Room k callerA)
    (F : ∀ base : Heap, K.In base → base.Ns mainGlobals mg → (∀ p ∈ cs, TabB base mg p.1 p.2) → FnG P w K mg base k fa fd [x] (Prm K mg (lawR n))) (hbind : ∀ (s : Shared) (u : Value), BindsTo s fd ⟨[u], []⟩ [(x, u)]) :
    codeAny (model P w) callerA (.call (.ref fa) ⟨[.ref a], []⟩) (fun r s' => r = .ok (.ret (.bool true)) ∧ OldK s1.heap s'.heap ∧ s'.os = s1.os ∧ PyProof.Rows.AllBare s'.gens) s1 := by
  obtain ⟨S, H0, E⟩ := entryT_of (P := P) (w := w) (cs := cs) KX hT ha hi (Nat.le_trans hn hl)
  obtain ⟨mm, oS, esS, epS, eS, dS, -⟩ := hsm
  have isT : ∀ b : Addr, b ∈ cs.map (·.2) → s1.heap.get? b = some { cls := .none, data := .fields #[] } := fun b hb => by
    obtain ⟨p, hp, e⟩ := List.mem_map.mp hb
    rw [← e]
    exact hT p hp
  have sN : H0 sysModules = none := by
    cases q : H0 sysModules with
    | none => rfl
    | some u =>
      rcases E.at1 sysModules (by rw [q]; simp) with e' | e'
      · rw [e', ha] at eS
        cases eS
        cases dS
      · rw [isT _ e'] at eS
        cases eS
        cases dS
  let φ0 : Heap → Prop := fun h => h.get? sysModules = some oS
  obtain ⟨H, hH⟩ : ∃ H, H = upd H0 sysModules (.ext φ0) := ⟨_, rfl⟩
  have hHs : H sysModules = some (.ext φ0) := by rw [hH]; exact upd_same
  have hHn : ∀ b, b ≠ sysModules → H b = H0 b := fun b hb => by rw [hH]; exact upd_ne hb
  have neS : ∀ {b : Addr} {u : HO}, H0 b = some u → b ≠ sysModules := fun {b u} e z => by rw [z, sN] at e; cases e
  have tbH : ∀ p ∈ cs, H p.2 = some (.tbl #[]) := fun p hp => by rw [hHn _ (neS (E.tb p hp))]; exact E.tb p hp
  have onlyH : ∀ b, H b = none ∨ b ∈ cs.map (·.2) ∨ (∃ o xs, H b = some (.frz o (.lst xs))) ∨ b = sysModules := fun b => by
    by_cases hb : b = sysModules
    · exact .inr (.inr (.inr hb))
    · rw [hHn b hb]
      rcases E.only b with h | h | h
      · exact .inl h
      · exact .inr (.inl h)
      · exact .inr (.inr (.inl h))
  have shH : Same S H := fun b o e => by
    have := E.sh b o e
    rw [hHn _ (neS this)]; exact this
  have okH : HOk P w H s1.heap := fun b u e => by
    by_cases hb : b = sysModules
    · subst hb
      rw [hHs] at e
      cases e
      exact ⟨eS, ⟨_, eS⟩, fun h1 h2 e1 k => k _ e1⟩
    · rw [hHn b hb] at e
      have ok := E.ok b u e
      rcases E.only b with h | h | ⟨o, xs, h⟩
      · rw [h] at e; cases e
      · obtain ⟨p, hp, ep⟩ := List.mem_map.mp h
        have := E.tb p hp
        rw [ep, e] at this
        cases this
        exact ok
      · rw [h] at e
        cases e
        exact ok
  have at1H : ∀ b, H b ≠ none → b = a ∨ b ∈ cs.map (·.2) ∨ b = sysModules := fun b hb => by
    by_cases h : b = sysModules
    · exact .inr (.inr h)
    · rw [hHn b h] at hb
      rcases E.at1 b hb with h | h
      · exact .inl h
      · exact .inr (.inl h)
  have base_of : ∀ {b : Addr} {o : Obj}, s1.heap.get? b = some o → H b = none → (hidT s1.heap H).get? b = some o := fun e n => hidT_get e (by rw [n])
  have noD : ∀ {b : Addr} {o : Obj}, s1.heap.get? b = some o → b ≠ sysModules → (∀ vs n, o.data ≠ .seq vs n) → o.data ≠ .fields #[] → H b = none := fun {b o} e hs h1 h2 => by
    cases q : H b with
    | none => rfl
    | some u =>
      rcases at1H b (by rw [q]; simp) with e' | e' | e'
      · rw [e', ha] at e
        cases e
        exact (h1 _ _ rfl).elim
      · rw [isT b e'] at e
        cases e
        exact (h2 rfl).elim
      · exact absurd e' hs
  have noA : ∀ {b : Addr} {o : Obj} {es : Array DictEntry} {ep : Nat}, s1.heap.get? b = some o → b ≠ sysModules → o.data = .dict es ep → H b = none := fun {b o es ep} e hs d => by
    refine noD e hs (fun vs n z => ?_) fun z => ?_
    · rw [d] at z
      cases z
    · rw [d] at z
      cases z
  have nsK : ∀ {b : Addr} {m : Str → Option Value}, b ≠ sysModules → s1.heap.Ns b m → (hidT s1.heap H).Ns b m := fun {b m} hs ⟨o, es, ep, e, d, r⟩ => ⟨o, es, ep, base_of e (noA e hs d), d, r⟩
  have notS : ∀ {b : Addr} {o : Obj}, s1.heap.get? b = some o → (∀ es ep, o.data ≠ .dict es ep) → b ≠ sysModules := fun {b o} e h z => by
    rw [z, eS] at e
    cases e
    exact h _ _ dS
  have hKb : K.In (hidT s1.heap H) := fun b o e => base_of (KX b o e) (by
    cases q : H b with
    | none => rfl
    | some u =>
      rcases at1H b (by rw [q]; simp) with e' | e' | e'
      · have hs : a ≠ sysModules := notS ha fun _ _ z => nomatch z
        rw [e'] at e q
        rw [hHn a hs] at q
        rw [E.off (by rw [q]; simp)] at e
        cases e
      · obtain ⟨p, hp, ep⟩ := List.mem_map.mp e'
        rw [← ep, nT p hp] at e
        cases e
      · rw [e', nS] at e
        cases e)
  have hM : Mod K mg (hidT s1.heap H) := ⟨hKb, nsK (by decide) hns, ⟨mb, nsK (by decide) hb, hbb⟩, let ⟨mc, h1, h2⟩ := hlim; ⟨mc, nsK (by decide) h1, h2⟩⟩
  have TB : ∀ p ∈ cs, TabB (hidT s1.heap H) mg p.1 p.2 := fun p hp => by
    have hTp := hT p hp
    refine ⟨?_, ?_, fun z => ?_⟩
    · obtain ⟨o, us, file, tf, flags, tg, inF, text, tt, e1, r1, r2, r3, r4, r5, r6, r7, r8, hne⟩ := C p hp
      refine ⟨o, us, file, tf, flags, tg, inF, text, tt, base_of e1 (noD e1 (notS e1 fun es ep z => by rw [r2] at z; cases z) (fun vs n z => ?_) fun z => ?_), r1, r2, r3, r4, r5, r6, r7, r8, hne⟩
      · rw [r2] at z
        cases z
      · rw [r2] at z
        cases z
        simp at r3
    · obtain ⟨bm, ob, b1, b2, b3, b4, b5, b6⟩ := hbm
      have nG : bm ≠ mainGlobals := fun q => by
        obtain ⟨o, es, ep, e, hd, _⟩ := hns
        rw [q, e] at b3
        cases b3
        rw [hd] at b6
        cases b6
      have nP : bm ≠ p.2 := fun q => by
        rw [q, hTp] at b3
        cases b3
        cases b6
      refine ⟨bm, ob, b1, b2, nG, nP, base_of b3 (noD b3 (notS b3 fun es ep z => by rw [b6] at z; cases z) (fun vs n z => ?_) fun z => ?_), b4, b5, b6⟩
      · rw [b6] at z
        cases z
      · rw [b6] at z
        cases z
    · obtain ⟨o, es, ep, e, hd, _⟩ := hns
      rw [z, hTp] at e
      cases e
      cases hd
  have e0 : Env0 P w K mg (hidT s1.heap H) callerA [] s1 H := ⟨rfl, hM, fun b o e => of_hidT e, Nat.le_of_eq (hidT_size _ _), trivial, fun b hb => absurd hb (by simp [frs]), okH, .of_eq hg⟩
  have I0 : Stt K ⟨S, H, []⟩ S H ([V.ref a].map some) [.val (.list (nums ns))] := by
    refine ⟨.refl _, shH, fun b o h1 h2 => (by have h3 : S b = none := h2; rw [h1] at h3; cases h3), fun b o e _ _ => e, fun b o e => ⟨o, e⟩, fun l h => absurd h (by simp), rfl, fun i s e => ?_, fun i j b y1 y2 => ?_, fun p hp => ?_, (fun b ps e => ⟨ps, e⟩), E.nt, ⟨⟨φ0, hHs, fun h e => ⟨oS, esS, epS, e, dS⟩⟩, fun h => nomatch h⟩⟩
    · cases i with
      | zero =>
        simp at e
        subst e
        exact ⟨_, rfl, _, rfl, .lst E.sq (trs_nums ns)⟩
      | succ i => simp at e
    · obtain ⟨s, x, b1, b2, b3⟩ := y1
      cases i with
      | zero => simp at b1; subst b1; exact absurd b3 fpS_val
      | succ i => simp at b1
    · obtain ⟨q, hq, e⟩ := hTb p hp
      rw [← e]
      exact LamX.TabS.nil (tbH q hq)
  refine codeAny_mono ((F _ hKb (nsK (by decide) hns) TB).run callerA [] s1 H ⟨[.ref a], []⟩ [.ref a] [.ref a] (fun v H' => v = .bl true ∧ H' sysModules = some (.ext φ0)) (fun _ _ _ => False) hr rfl e0 (hbind s1 (.ref a)) (.cons rfl .nil)
    ⟨S, [], _, _, _, ⟨ns, rfl, hn, rfl, rfl⟩, I0, fun v S' H' J hv => ⟨tr_bl hv, J.keep _ _ hHs (fun h => nomatch h) fun ps z => nomatch z⟩⟩) fun r s' q => ?_
  cases r with
  | error e =>
    obtain ⟨_, _, _, _, _, _, _, _, _, _, _, _, z⟩ := q
    exact z.elim
  | ok fl =>
    cases fl with
    | next => exact False.elim q
    | brk => exact False.elim q
    | cont => exact False.elim q
    | ret u =>
      obtain ⟨v, H', os, bare, un, hok', r', q, qs⟩ := q
      subst q
      have r2 : u = Value.bool true := r'
      subst r2
      have key : ∀ b o, b ∉ cs.map (·.2) → s1.heap.get? b = some o → s'.heap.get? b = some o := fun b o nb e => by
        cases q : H b with
        | none => exact un.keep b o e q (by simp [frs]) (by simp)
        | some u =>
          rcases onlyH b with z | z | ⟨ob, xs, z⟩ | z
          · rw [q] at z; cases z
          · exact absurd z nb
          · obtain ⟨e1, _⟩ := okH b _ z
            obtain ⟨e2, _⟩ := hok' b _ (un.frzs b ob _ z)
            rw [e] at e1; cases e1
            exact e2
          · rw [z] at e ⊢
            rw [eS] at e
            cases e
            exact (hok' _ _ qs).1
      have grown : ∀ p ∈ cs, ∃ more : Array Value, s'.heap.get? p.2 = some { cls := .none, data := .fields more } := fun p hp => by
        obtain ⟨more, z⟩ := un.tbls p.2 #[] (tbH p hp)
        exact ⟨_, hok' p.2 _ z⟩
      refine ⟨rfl, ⟨fun b o e => ?_, fun b o e => ?_⟩, os, bare⟩
      · by_cases hb : b ∈ cs.map (·.2)
        · obtain ⟨p, hp, ep⟩ := List.mem_map.mp hb
          obtain ⟨more, hm⟩ := grown p hp
          rw [← ep] at e ⊢
          rw [hT p hp] at e
          cases e
          exact .inr (.inl ⟨((C p hp).tab (hT p hp)).isCodeTable, rfl, #[], more, rfl, by rw [Array.empty_append]; exact hm⟩)
        · exact .inl (key b o hb e)
      · by_cases hb : b ∈ cs.map (·.2)
        · obtain ⟨p, hp, ep⟩ := List.mem_map.mp hb
          obtain ⟨more, hm⟩ := grown p hp
          rw [← ep]
          exact ⟨_, hm⟩
        · exact ⟨o, key b o hb e⟩
/-- the end; ts: the defs that make lambdas, with their code objects and tables -/
theorem walkT (ts : List (Str × Addr × Addr)) (hTb : Tb.T = ts.map fun t => (t.2.2, (t.1 ++ (".<locals>." : Str) ++ ("<lambda>" : Str) : Str))) {l : PySem.W.OpenLaw} {n k : Nat} {q : Program} {loose : List Str} {XP : (Str → Option Value) → Heap → Prop} {YP : World → Heap → Prop} {d : DefRec} {K : Params → PySem.W.Frag} {x : Str} (hn : l.most = some n) (hn2 : n ≤ sizeLine) (hdf : d.params.defaults = []) (hr : Room k callerA)
    (hY : ∀ (w : World) (h : Heap), YP w h → (K w.params).In h) (hrec : ∀ t ∈ ts, ∃ e, (PyProof.Rows.recsOf q).find? (fun e => e.name == t.1) = some e) (htab : ∀ w : World, ∀ t ∈ ts, PySem.W.tabIn (K w.params) t.1 = some t.2) (hno : ∀ w : World, ∀ t ∈ ts, (K w.params).lookup t.2.2 = none) (hnS : ∀ w : World, (K w.params).lookup sysModules = none) (himp : PyProof.Rows.importsNone q = true)
    (F : ∀ (w : World) (mg : Str → Option Value) (fa : Addr) (h : Heap), (K w.params).In h → h.Ns mainGlobals mg → mg d.name = some (.ref fa) → ∃ fd : FuncData, (∀ (s : Shared) (u : Value), BindsTo s fd ⟨[u], []⟩ [(x, u)]) ∧
        ∀ base : Heap, (K w.params).In base → base.Ns mainGlobals mg → (∀ t ∈ ts, TabB base mg t.2.1 t.2.2) → FnG l.prog w (K w.params) mg base k fa fd [x] (Prm (K w.params) mg (lawR n))) : PySem.W.WalkO q loose XP YP l.row.toRowW d [] (fun f vs => PySem.call f vs) := by
  refine Att.attach_call hn hdf fun w s0 s1 mg mb fa o pm cd doc a vs ns G Y ho hd hcd hmg hobj hints hlen hg => ?_
  have KX := hY w _ Y
  obtain ⟨fd, hb, hF⟩ := F w mg fa _ KX G.T.g hmg
  have key : ∀ t ∈ ts, PySem.W.CodeHd s1.heap t.2.1 t.2.2 ∧ s1.heap.get? t.2.2 = some { cls := .none, data := .fields #[] } := fun t ht => by
    obtain ⟨e, he⟩ := hrec t ht
    exact PySem.W.tab_of G.T KX he (htab w t ht)
  have mem : ∀ {P : Addr × Addr → Prop}, (∀ t ∈ ts, P t.2) → ∀ p ∈ ts.map (·.2), P p := fun h p hp => by
    obtain ⟨t, ht, rfl⟩ := List.mem_map.mp hp
    exact h t ht
  exact law_runT (cs := ts.map (·.2)) (fun p hp => by
    rw [hTb] at hp
    obtain ⟨t, ht, rfl⟩ := List.mem_map.mp hp
    exact ⟨t.2, List.mem_map.mpr ⟨t, ht, rfl⟩, rfl⟩) KX G.T.g G.T.b G.T.builtins G.T.nolimit (let ⟨mm, h, _⟩ := (G.T.seer himp).mods; ⟨mm, h⟩) (hnS w) hg (mem fun t ht => (key t ht).2) (mem (P := fun p => (K w.params).lookup p.2 = none) fun t ht => hno w t ht) (mem fun t ht => (key t ht).1) G.T.bmain hobj hints hlen hn2 hr (fun base h1 h2 h3 => hF base h1 h2 fun t ht => h3 t.2 (List.mem_map.mpr ⟨t, ht, rfl⟩)) hb
/-- .. where no def makes a lambda -/
theorem walkG (hT : Tb.T = []) {l : PySem.W.OpenLaw} {n k : Nat} {q : Program} {loose : List Str} {XP : (Str → Option Value) → Heap → Prop} {YP : World → Heap → Prop} {d : DefRec} {K : Params → PySem.W.Frag} {x : Str} (hn : l.most = some n) (hn2 : n ≤ sizeLine) (hdf : d.params.defaults = []) (hr : Room k callerA)
    (hY : ∀ (w : World) (h : Heap), YP w h → (K w.params).In h) (hnS : ∀ w : World, (K w.params).lookup sysModules = none) (himp : PyProof.Rows.importsNone q = true)
    (F : ∀ (w : World) (mg : Str → Option Value) (fa : Addr) (h : Heap), (K w.params).In h → h.Ns mainGlobals mg → mg d.name = some (.ref fa) → ∃ fd : FuncData, (∀ (s : Shared) (u : Value), BindsTo s fd ⟨[u], []⟩ [(x, u)]) ∧
        ∀ base : Heap, (K w.params).In base → base.Ns mainGlobals mg → FnG l.prog w (K w.params) mg base k fa fd [x] (Prm (K w.params) mg (lawR n))) : PySem.W.WalkO q loose XP YP l.row.toRowW d [] (fun f vs => PySem.call f vs) :=
  walkT [] hT hn hn2 hdf hr hY (fun t ht => nomatch ht) (fun w t ht => nomatch ht) (fun w t ht => nomatch ht) hnS himp fun w mg fa h X G e => by
    obtain ⟨fd, hb, hF⟩ := F w mg fa h X G e
    exact ⟨fd, hb, fun base h1 h2 _ => hF base h1 h2⟩
/-- for a look at the numbers -/
def Show (x : Str) (c P : Addr) : Prop := True
theorem probe {Q : Prop} {K : PySem.W.Frag} {h : Heap} (KX : K.In h) {x : Str} {f c P : Addr} {oc oc2 dV kV dc pm ct : Value} {od od2 an : Option Addr} {sl sl2 : Array (Option Value)} {nm qn : Str} {ps : Arguments} {b : List Stmt} {sc : Scope} {vs : Array Value}
    (a : PySem.W.nsIn K mainGlobals x = some (some (.ref f))) (l : K.lookup f = some ⟨oc, od, .func (PySem.W.fnOf nm qn ps b sc dV kV dc pm an (.ref c) ct), sl⟩) (t : K.lookup c = some ⟨oc2, od2, .fields vs, sl2⟩) (v : vs[11]? = some (.ref P)) (g : Show x c P → Q) : Q := g trivial
/-- at the making of a def's facts: its table -/
theorem tabOf_mk {base : Heap} {mg : Str → Option Value} {cA P : Addr} {q : Str} (hm : (P, q ++ "<lambda>") ∈ Tb.T) (hu : ∀ p ∈ Tb.T, p.1 = P → p.2 = q ++ "<lambda>") (B : TabB base mg cA P) : TabOf base mg (.ref cA) q := ⟨cA, P, rfl, B, hm, hu⟩
end Mw

/-! NwZD: more statements and calls. -/
namespace Mw
open PySem PySem.Spec L2
def ipIW (C : Int → Int → Prop) (f : Int → Int → Int) : TIp := fun x y H Q => ∃ i j, x = .int i ∧ y = .int j ∧ C i j ∧ Q (.int (f i j)) H
theorem ip_mulW {X : Cx} : PIp X .Mult (ipIW CMulW fun i j => i * j) := by
  intro pins s σ H x y v u Q I r1 r2 h
  obtain ⟨i, j, e1, e2, hc, q⟩ := h
  subst e1; subst e2
  obtain ⟨t, rfl⟩ := r1
  obtain ⟨t', rfl⟩ := r2
  exact PyProof.Rows.imul_int ⟨.int _, H, I.tok _, ⟨_, rfl⟩, q⟩ hc.ok
variable [Tb]
section
variable {c : CxD} {B : Bs} {e : Expr} {rest : List Stmt} {sl sl1 : List Sl} {p : Bool} {pos p1 : Pos} {R : Rt}
/-- n *= e, whole numbers -/
theorem go_augMul (i : Nat) {x : Str} {m n : Int} (hs : sl[i]? = some (.val (.int m)) := by rfl) (h : EV c B e sl p (.st (.int n)) sl1) (hc : CMulW m n) (h2 : GO c B rest (sl1.set i (.val (.int (m * n)))) R) (hi : (sl1[i]?).isSome = true := by rfl) (hN : c.N[i]? = some x := by rfl) (nd : c.N.Nodup := by assumption) (hx : c.sc.names.lookup x = some .local ∨ c.sc.names.lookup x = some .cell := by first | exact .inl rfl | exact .inr rfl) :
    GO c B (.AugAssign (.Name x p1) .Mult e pos :: rest) sl R := by
  obtain ⟨te, h, hh⟩ := h
  refine go_to ⟨tAug i te _, fun X hX => ps_aug (by rw [hX.hN]; exact nd) (by rw [hX.hN]; exact hN) (hX.loc hx).1 (h X hX) ip_mulW (hX.loc hx).2, fun S H σ I D q => ?_⟩ h2
  obtain ⟨v, hv, tv⟩ := I.val hs
  refine ⟨v, hv, hh S H σ I _ fun w S1 H1 I1 a1 x1 _ => ?_⟩
  refine ⟨m, n, tr_int tv, tr_int x1, hc, ?_⟩
  exact q.nx S1 H1 _ _ a1.s (I1.set (k := .st (.int (m * n))) (.int _) hi) rfl
end
/-! ### promises narrowed, defs with defaults -/
theorem DefD.good {α β : Type} {pre : α → Prop} {args : α → List Sl} {out : α → Out} {pre' : β → Prop} {args' : β → List Sl} {res' : β → Kd} {P : Program} {w : World} {K : PySem.W.Frag} {mg : Str → Option Value} {base : Heap} {x : Str} {st : Stmt} {ps : List Str} {lv : Nat} {dvs : List V} (h : DefD P w K mg base x st ps lv (Prm K mg (PureX pre args out)) dvs)
    (hi : ∀ b, pre' b → ∃ a, pre a ∧ args a = args' b ∧ out a = .ret (res' b)) : DefD P w K mg base x st ps lv (Prm K mg (Pure pre' args' res')) dvs := by
  obtain ⟨f, fd, a, b, c, d⟩ := h.ex
  exact ⟨f, fd, a, b, c, d.imp fun vs H Q E ⟨S, ls, cs, u, cs', ⟨b, hb, e1, e2, e3⟩, I, q⟩ => by
    obtain ⟨a, h1, h2, h3⟩ := hi b hb
    exact ⟨S, ls, cs, u, cs', ⟨a, h1, e1.trans h2.symm, e2.trans h3.symm, e3⟩, I, q⟩⟩
section
variable {c : CxD} {B : Bs} {e : Expr} {es : List Expr} {sl sl1 sl2 : List Sl} {p q : Bool} {ks ks' : List Kd} {pos p1 : Pos} {α : Type} {pre : α → Prop} {args : α → List Sl} {out : α → Out} {x : Str} {st : Stmt} {ps nms : List Str} {lv n : Nat} {kws : List Keyword} {ix : List Nat} {P : Program} {w : World} {K : PySem.W.Frag} {mg : Str → Option Value} {base : Heap} {z : Exn}
/-- f(e, .., k = e, ..), refused -/
theorem xv_callPK (v : α) (F : DefK P w K mg base x st ps lv (Prm K mg (PureX pre args out))) (kb : KwOk x st ps nms n ix) (ha : AV c B (e :: es) sl p ks sl1) (hkv : KV c B kws sl1 q ks' sl2) (hcs : ArgP (pick (ks ++ ks') ix) (args v)) (hp : pre v) (hout : out v = .exn z) (hc : DefK P w K mg base x st ps lv (Prm K mg (PureX pre args out)) → c.DefK x st ps lv (Prm c.K c.mg (PureX pre args out)) := by exact fun h => h) (hlv : lv ≤ c.lv := by exact Nat.le_of_ble_eq_true rfl) (hg : c.sc.names.lookup x = some .globalImplicit := by rfl)
    (hla : ks.length = (e :: es).length := by rfl) (hn : (e :: es).length = n := by rfl) (hlk : ks'.length = kws.length := by rfl) (hln : kws.length = nms.length := by rfl) (hfm : (q || ks.all Kd.firm) = true := by rfl) (hall : ∀ env, (backToKw pos (keywordEach kws env)).all (·.1.isSome) = true := by intro _; rfl) (hks : ∀ env, (backToKw pos (keywordEach kws env)).filterMap (·.1) = nms := by intro _; rfl)
    (hdb : (x == ("__debug__" : Str)) = false := by decide) (he : ∀ env, starEach (e :: es) env = (false, eval e env) :: starEach es env := by intro env; rfl) (hpl : ∀ env, ((backTo pos (starEach (e :: es) env)).any (·.1) || (backToKw pos (keywordEach kws env)).any (·.1.isNone)) = false := by intro _; rfl) : XV c B (.Call (.Name x p1) (e :: es) kws pos) sl (p && q) z sl2 := by
  obtain ⟨f, fd, hm, hF, G⟩ := (hc F).ex
  obtain ⟨t, ht, hs⟩ := ha
  obtain ⟨t', ht', hs'⟩ := hkv
  refine ⟨fun σ H Q => t σ H fun vs H1 => vs.length = (e :: es).length ∧ t' σ H1 fun ws H2 => ws.length = kws.length ∧ Prm c.K c.mg (PureX pre args out) (pick (vs ++ ws) ix) H2 Q fun cls d H' => c.W cls d σ H', fun X hX => pe_callGK (by rw [hX.hP, hX.hw, hX.hK, hX.hm, hX.hb]; exact G) (hX.rm.mono hlv) hX.gu hX.tk (hX.g x hg) (by rw [hX.hm]; exact hm) (by rw [hX.hK]; exact hF.kp) (by rw [hX.hK]; exact kb.kwb hF) (ht X hX) (ht' X hX) hln hn (hall _) (hks _) hdb (he _) (hpl _), fun S H σ I w Q => ?_⟩
  refine hs S H σ I _ fun vs S1 H1 I1 a1 x1 => ⟨by rw [x1.len]; exact hla, hs' S1 H1 σ I1 _ fun ws S2 H2 I2 a2 x2 => ⟨by rw [x2.len]; exact hlk, S2, [], args v, .exn z, args v, ⟨v, hp, rfl, hout.symm, rfl⟩, hcs.stt I2 (((x1.adv a2 hfm).app x2).pick ix), fun cls dx S' H' J hv => ?_⟩⟩
  obtain ⟨I3, a3⟩ := back0 I2 J
  exact w S' H' cls dx (((a1.trans a2).trans a3).weak fun h => by rw [h]; rfl) I3 hv
end
section
variable {c : CxD} {B : Bs} {a b : Expr} {sl sl1 sl2 : List Sl} {p q : Bool} {pos p1 : Pos} {i j : Int}
/-- min(a, b) -/
theorem ev_min2 (ha : EV c B a sl p (.st (.int i)) sl1) (hb : EV c B b sl1 q (.st (.int j)) sl2) (hm : c.mg "min" = none) (hg : c.sc.names.lookup ("min" : Str) = some .globalImplicit := by rfl)
    (he : ∀ env, starEach [a, b] env = (false, eval a env) :: starEach [b] env := by intro env; rfl) (he2 : ∀ env, starEach [b] env = (false, eval b env) :: starEach [] env := by intro env; rfl) (hpl : ∀ env, (backTo pos (starEach [b] env)).any (·.1) = false := by intro env; rfl) :
    EV c B (.Call (.Name "min" p1) [a, b] [] pos) sl (p && q) (.st (.int (if j < i then j else i))) sl2 := by
  have h := ev_callB (pos := pos) (p1 := p1) (ks := [.st (.int i), .st (.int j)]) (k := .st (.int (if j < i then j else i))) (fun X hX => call_min2 hX.calm) (fun B σ sl S H vs I hv Q q => by
    obtain ⟨v, w, rfl, h1, h2⟩ := two_arg hv
    exact ⟨i, j, by rw [tr_int h1, tr_int h2], q.st I (.int _)⟩) (av_cons ha (av_cons hb av_nil rfl he2) (by simp [Kd.firm]) he) hm (by decide +kernel) hg he hpl
  rwa [Bool.and_true] at h
/-- max(a, b) -/
theorem ev_max2 (ha : EV c B a sl p (.st (.int i)) sl1) (hb : EV c B b sl1 q (.st (.int j)) sl2) (hm : c.mg "max" = none) (hg : c.sc.names.lookup ("max" : Str) = some .globalImplicit := by rfl)
    (he : ∀ env, starEach [a, b] env = (false, eval a env) :: starEach [b] env := by intro env; rfl) (he2 : ∀ env, starEach [b] env = (false, eval b env) :: starEach [] env := by intro env; rfl) (hpl : ∀ env, (backTo pos (starEach [b] env)).any (·.1) = false := by intro env; rfl) :
    EV c B (.Call (.Name "max" p1) [a, b] [] pos) sl (p && q) (.st (.int (if j > i then j else i))) sl2 := by
  have h := ev_callB (pos := pos) (p1 := p1) (ks := [.st (.int i), .st (.int j)]) (k := .st (.int (if j > i then j else i))) (fun X hX => call_max2 hX.calm) (fun B σ sl S H vs I hv Q q => by
    obtain ⟨v, w, rfl, h1, h2⟩ := two_arg hv
    exact ⟨i, j, by rw [tr_int h1, tr_int h2], q.st I (.int _)⟩) (av_cons ha (av_cons hb av_nil rfl he2) (by simp [Kd.firm]) he) hm (by decide +kernel) hg he hpl
  rwa [Bool.and_true] at h
end
/-- numbers of many digits -/
theorem Rk.intB {i : Int} {k : Nat} (hk : 0 < k) (hk2 : k ≤ 1900) (h : i.natAbs < 2 ^ k) : Rk 0 (k + 1) (.int i) := by
  refine ⟨?_, rfl, Nat.zero_le _, int_shown hk h⟩
  show decide _ = true
  refine decide_eq_true ?_
  have h2 : i.natAbs.log2 < k := PySem.Flt.log2_lt_of hk h
  omega
end Mw

/-! NwZE: sum(xss, []), xss a list of lists. -/
namespace Mw
open PySem PySem.Spec L2
def IsL (h : Heap) (a : Addr) (its : List Value) : Prop := ∃ n sl, h.get? a = some { cls := .type "list", dict := none, data := .seq its.toArray n, slots := sl }
def IsL0 (h : Heap) (a : Addr) (its : List Value) : Prop := ∃ n, h.get? a = some { cls := .type "list", dict := none, data := .seq its.toArray n }
section
variable {prog : Program} {w : World} {A : Around} {R : Result → Shared → Prop} {I : Addr} {fp wr : List Addr} {n : Nat} {P : Nat → Value → Prop} {St : Nat → Heap → Prop}
theorem sum_ls_loop (W : Walks prog w A.in1 I fp wr n P St) (as : List Addr) (xss : List (List Value)) (hP : ∀ i v, P i v → ∃ a xs, as[i]? = some a ∧ xss[i]? = some xs ∧ v = .ref a) (S : Addr) (hSf : S ∉ fp) (hn : n = xss.length) (hex : ∀ i h, St i h → ∀ b ∈ wr, ∃ o, h.get? b = some o) :
    ∀ (k i : Nat) (s : Shared) (t : Addr) (acc : List Value) (c : Nat), n - i = k → i ≤ n → St i s.heap → s.heap.get? S = some { cls := .type "list", dict := none, data := .seq #[.ref t] c, slots := #[] } → IsL0 s.heap t acc → t ≠ S → t ∉ wr →
    (∀ (j : Nat) (a : Addr) (xs : List Value), as[j]? = some a → xss[j]? = some xs → IsL s.heap a xs ∧ a ≠ S ∧ a ∉ wr) → (acc ++ (xss.drop i).flatten).length ≤ sizeLine →
    (∀ h' tk t', (∀ b o, b ∉ wr → b ≠ S → s.heap.get? b = some o → h'.get? b = some o) → IsL0 h' t' (acc ++ (xss.drop i).flatten) → ((n = i ∧ t' = t) ∨ S < t') → R (.ok (.ret (.ref t'))) { s with heap := h', toks := tk }) →
    codeAny (model prog w) A (.builtin "sum.loop" ⟨[.ref I, .ref S, rawInt 2, rawInt 0], []⟩) R s := by
  have hSw : S ∉ wr := fun h => hSf (W.sub _ h)
  intro k
  induction k with
  | zero =>
    intro i s t acc c hk hi hst hS ht htS htw hL hsz hR
    have hin : i = n := by omega
    subst hin
    refine codeAny_builtin F.entry_sum_loop ?_
    rw [Around.under_plainId F.plain_sum_loop _]
    show wpAny _ A.in1 (seqItems? (.ref S) >>= _) _ _ s
    refine wpAny_bind (wpAny_seqItems hS rfl ?_)
    show wpAny _ A.in1 (tryCatch (pyNext (.ref I)) _ >>= _) _ _ s
    refine wpAny_bind (wpAny_tryCatch (W.done s _ _ hst fun h' tk hk' => ?_))
    refine wpAny_pure (hR h' tk t (fun b o hbw _ e => hk' b o hbw e) ?_ (.inl ⟨rfl, rfl⟩))
    obtain ⟨n1, e⟩ := ht
    rw [hn, List.drop_length]
    simp only [List.flatten_nil, List.append_nil]
    exact ⟨n1, hk' _ _ htw e⟩
  | succ k ih =>
    intro i s t acc c hk hi hst hS ht htS htw hL hsz hR
    have hlt : i < n := by omega
    refine codeAny_builtin F.entry_sum_loop ?_
    rw [Around.under_plainId F.plain_sum_loop _]
    show wpAny _ A.in1 (seqItems? (.ref S) >>= _) _ _ s
    refine wpAny_bind (wpAny_seqItems hS rfl ?_)
    show wpAny _ A.in1 (tryCatch (pyNext (.ref I)) _ >>= _) _ _ s
    refine wpAny_bind (wpAny_tryCatch (W.item i s _ _ hlt hst fun v h' tk hPv hst' hk' => ?_))
    obtain ⟨a, xs, ha, hxs, rfl⟩ := hP i v hPv
    have hS' := hk' S _ hSw hS
    obtain ⟨⟨na, sla, ea⟩, haS, haw⟩ := hL i a xs ha hxs
    obtain ⟨nt, et⟩ := ht
    have ea' := hk' a _ haw ea
    have et' := hk' t _ htw et
    have hdrop : xss.drop i = xs :: xss.drop (i + 1) := by
      obtain ⟨h1, h2⟩ := List.getElem?_eq_some_iff.mp hxs
      rw [List.drop_eq_getElem_cons h1, h2]
    have hfl : acc ++ (xss.drop i).flatten = (acc ++ xs) ++ (xss.drop (i + 1)).flatten := by rw [hdrop, List.flatten_cons, List.append_assoc]
    rw [hfl] at hsz hR
    show wpAny _ A.in1 ((holding [Value.ref a] (binaryOp .Add (.ref t) (.ref a))).attempt >>= _) _ _ _
    refine wpAny_bind (wpAny_attempt (wpAny_holding ?_))
    refine PySem.concat_meets ⟨_, et', rfl⟩ ⟨_, ea', rfl⟩ PySem.noFill_list_add PySem.seq_list_add PySem.F.slot_list_add PySem.F.entry_list_add (PySem.F.args_list_add_2 _ _)
      (PyProof.Rows.list_addW t a acc.toArray xs.toArray nt na none none #[] sla (by rw [List.length_append] at hsz; simp only [List.length_append] at hsz; simp only [List.size_toArray]; omega)) ⟨et', ea', ?_⟩
    have eL : acc.toArray ++ xs.toArray = (acc ++ xs).toArray := by simp
    rw [eL]
    have hS1 : (h'.push { cls := Value.type "list", data := .seq (acc ++ xs).toArray }).get? S = some { cls := .type "list", dict := none, data := .seq #[.ref t] c, slots := #[] } := Heap.get?_push_of_some _ hS'
    have hSn : S ≠ h'.objs.size := Nat.ne_of_lt (Heap.lt_size hS')
    show wpAny _ A.in1 (updateSeq S (fun _ => #[.ref h'.objs.size]) >>= _) _ _ _
    refine wpAny_bind (wpAny_updateSeq hS1 rfl ?_)
    have hS2 := Heap.get?_update_self (Obj.mapSeq fun _ => #[Value.ref h'.objs.size]) hS1 rfl
    have up : ∀ b o, b ≠ S → h'.get? b = some o → _ := fun b o hbS e => (Heap.get?_update_other _ (Obj.mapSeq fun _ => #[Value.ref h'.objs.size]) (Ne.symm hbS)).trans ((Heap.get?_update_other _ (Obj.mapSeq fun _ => #[Value.ref h'.objs.size]) (Ne.symm hbS)).trans (Heap.get?_push_of_some { cls := Value.type "list", data := .seq (acc ++ xs).toArray } e))
    refine wpAny_bind (wpAny_letGo ?_)
    refine wpAny_bind (wpAny_updateSeq hS2 rfl (wpAny_pure ⟨plainId_quiet F.plain_sum_loop _, ih (i + 1) _ h'.objs.size (acc ++ xs) _ (by omega) hlt (W.frame _ _ _ hst' fun b hb o e => ?_) (Heap.get?_update_self _ hS2 rfl) ?_ ?_ ?_ (fun j b ys hb hys => ?_) hsz fun h'' tk'' t'' hk'' hL'' ht'' => ?_⟩))
    · have hbS : b ≠ S := fun z => hSf (by rw [← z]; exact hb)
      exact (up b o hbS e)
    · exact ⟨_, (Heap.get?_update_other _ _ hSn).trans ((Heap.get?_update_other _ _ hSn).trans (Heap.get?_push_size _ rfl))⟩
    · exact Ne.symm hSn
    · intro hb
      obtain ⟨o, e⟩ := hex _ _ hst' _ hb
      exact Nat.lt_irrefl _ (Heap.lt_size e)
    · obtain ⟨⟨n2, sl2, e2⟩, h2, h3⟩ := hL j b ys hb hys
      exact ⟨⟨n2, sl2, up b _ h2 (hk' b _ h3 e2)⟩, h2, h3⟩
    · refine hR h'' tk'' t'' (fun b o hbw hbS e => hk'' b o hbw hbS (up b o hbS (hk' b o hbw e))) hL'' (.inr ?_)
      rcases ht'' with ⟨_, z⟩ | z
      · rw [z]; exact Heap.lt_size hS'
      · exact z
end
theorem args_sum2 (a b : Value) : argsOk "sum" ⟨[a, b], []⟩ := by unfold argsOk; kernel_rfl
section
variable {prog : Program} {w : World} {A : Around} {E : Value → Shared → Prop} {s : Shared}
theorem sum_ls {l l0 : Addr} {as : List Addr} {acc : List Value} {xss : List (List Value)} {Q : Value → Shared → Prop} (hh : A.handled = none) (hl : s.heap.IsList l (as.map Value.ref).toArray) (h0 : IsL0 s.heap l0 acc) (hlen : as.length = xss.length)
    (hL : ∀ (j : Nat) (a : Addr) (xs : List Value), as[j]? = some a → xss[j]? = some xs → IsL s.heap a xs) (hsz : (acc ++ xss.flatten).length ≤ sizeLine)
    (h : ∀ h' tk t', (∀ b o, s.heap.get? b = some o → h'.get? b = some o) → IsL0 h' t' (acc ++ xss.flatten) → ((as = [] ∧ t' = l0) ∨ s.heap.objs.size ≤ t') → Q (.ref t') { s with heap := h', toks := tk }) :
    wpAny (model prog w) A (call (.builtin "sum") [.ref l, .ref l0]) Q E s := by
  refine call_function_tree F.kind_sum F.plain_sum F.entry_sum (args_sum2 _ _) ?_
  unfold Builtin.«sum»
  simp only [List.length_cons, List.length_nil]
  rw [if_neg (by decide)]
  refine wpAny_bind (wpAny_of_eq (show Builtin.Builtins.bindParams "sum" ["start"] 0 ⟨[.ref l0], []⟩ = pure [some (.ref l0)] from rfl) ?_)
  have hlt : l < s.heap.objs.size := by obtain ⟨_, e, _⟩ := hl; exact Heap.lt_size e
  refine wpAny_bind (wpAny_pyIter_list hl ?_)
  obtain ⟨n0, e0⟩ := h0
  have lt0 : l0 < s.heap.objs.size := Heap.lt_size e0
  have tyL : ∀ (h2 : Heap) (tk : Nat), (∀ b o, s.heap.get? b = some o → h2.get? b = some o) → ({ s with heap := h2, toks := tk } : Shared).TypeIs (.ref l0) "list" := fun h2 tk k => ⟨_, k _ _ e0, rfl⟩
  have kp : ∀ b o, s.heap.get? b = some o → (s.heap.push { cls := .type "list_iterator", data := .fields #[.ref l, .int 0 0] }).get? b = some o := fun b o e => Heap.get?_push_of_some _ e
  refine wpAny_bind (wpAny_pure ?_)
  simp only [List.forIn_cons, List.forIn_nil]
  refine wpAny_bind (wpAny_bind (wpAny_bind (wpAny_isInstance (T := "list") (b := false) (tyL _ _ kp) PySem.F.sub_list_str ?_)))
  simp only [Bool.false_eq_true, if_false]
  refine wpAny_pure (wpAny_bind (wpAny_bind (wpAny_isInstance (T := "list") (b := false) (tyL _ _ kp) PySem.F.sub_list_bytes ?_)))
  simp only [Bool.false_eq_true, if_false]
  refine wpAny_pure (wpAny_bind (wpAny_bind (wpAny_isInstance (T := "list") (b := false) (tyL _ _ kp) PySem.F.sub_list_bytearray ?_)))
  simp only [Bool.false_eq_true, if_false]
  refine wpAny_pure (wpAny_pure ?_)
  refine wpAny_bind (wpAny_newObj_type ?_)
  have hI : s.heap.objs.size < (s.heap.push { cls := .type "list_iterator", data := .fields #[.ref l, .int 0 0] }).objs.size := by rw [Heap.size_push]; exact Nat.lt_succ_self _
  have hsp : (s.heap.push { cls := .type "list_iterator", data := .fields #[.ref l, .int 0 0] }).objs.size = s.heap.objs.size + 1 := Heap.size_push ..
  have kp2 : ∀ b o, s.heap.get? b = some o → ((s.heap.push { cls := .type "list_iterator", data := .fields #[.ref l, .int 0 0] }).push { cls := .type "list", data := .seq #[.ref l0] }).get? b = some o := fun b o e => Heap.get?_push_of_some _ (kp b o e)
  refine wpAny_pure ⟨plainId_quiet F.plain_sum_loop _, sum_ls_loop (Walks.list (A := A.in1) hh s.heap.objs.size l (Nat.ne_of_lt hlt) (as.map Value.ref).toArray) as xss (fun i v hv => ?_) (s.heap.push { cls := .type "list_iterator", data := .fields #[.ref l, .int 0 0] }).objs.size (fun hm => ?_) (by simp [hlen]) (fun i h2 st b hb => ?_) _ 0 _ l0 acc _ rfl (Nat.zero_le _) ⟨?_, ?_⟩ (Heap.get?_push_size _ rfl) ⟨_, kp2 _ _ e0⟩ (Nat.ne_of_lt (Nat.lt_trans lt0 hI)) (fun hm => ?_) (fun j a xs ha hx => ⟨?_, ?_, fun hm => ?_⟩) (by simpa using hsz) fun h' tk t' hk hL2 ht => ?_⟩
  · simp only [List.getElem?_toArray, List.getElem?_map] at hv
    obtain ⟨a, ha, rfl⟩ := Option.map_eq_some_iff.mp hv
    have hi : i < xss.length := by rw [← hlen]; exact (List.getElem?_eq_some_iff.mp ha).1
    exact ⟨a, _, ha, List.getElem?_eq_getElem hi, rfl⟩
  · simp only [List.mem_cons, List.not_mem_nil, or_false] at hm
    rcases hm with hm | hm
    · exact Nat.ne_of_gt hI hm
    · exact Nat.ne_of_gt (Nat.lt_trans hlt hI) hm
  · rw [List.mem_singleton.mp hb]
    obtain ⟨o, e, _⟩ := st.1
    exact ⟨o, e⟩
  · exact ⟨_, Heap.get?_push_of_some _ (Heap.get?_push_size _ rfl), rfl, rfl⟩
  · exact (hl.push _).push _
  · rw [List.mem_singleton] at hm; exact Nat.ne_of_lt lt0 hm
  · obtain ⟨n1, sl1, e1⟩ := hL j a xs ha hx
    exact ⟨n1, sl1, kp2 _ _ e1⟩
  · obtain ⟨n1, sl1, e1⟩ := hL j a xs ha hx
    exact Nat.ne_of_lt (Nat.lt_trans (Heap.lt_size e1) hI)
  · obtain ⟨n1, sl1, e1⟩ := hL j a xs ha hx
    rw [List.mem_singleton] at hm; exact Nat.ne_of_lt (Heap.lt_size e1) hm
  · refine h h' tk t' (fun b o e => hk b o (fun hm => ?_) (fun z => ?_) (kp2 b o e)) (by simpa using hL2) ?_
    · rw [List.mem_singleton] at hm; exact Nat.ne_of_lt (Heap.lt_size e) hm
    · exact Nat.ne_of_lt (Nat.lt_trans (Heap.lt_size e) hI) z
    · rcases ht with ⟨z1, z2⟩ | z
      · exact .inl ⟨List.eq_nil_of_length_eq_zero (by simpa using z1), z2⟩
      · exact .inr (Nat.le_of_lt (Nat.lt_trans hI z))
end
section
variable {X : Cx}
def rSum2 (K : PySem.W.Frag) : List V → Hp → VK → Prop := fun vs H Q => ∃ (p q : Addr) (as : List Addr) (ys : List V) (zss : List (List V)), vs = [.ref p, .ref q] ∧ SqL K H p (as.map V.ref) ∧ H q = some (.lst ys) ∧ as.length = zss.length ∧ (∀ (j : Nat) a zs, as[j]? = some a → zss[j]? = some zs → SqL K H a zs) ∧ (ys ++ zss.flatten).length ≤ sizeLine ∧ (as = [] → Q (.ref q) H) ∧ (∀ l, H l = none → Q (.ref l) (upd H l (.lst (ys ++ zss.flatten))))
theorem vals_refs : ∀ {as : List Addr} {its : List Value}, Vals (as.map V.ref) its → its = as.map Value.ref
  | [], _, .nil => rfl
  | a :: as, _, .cons r t => by
    have e : _ = Value.ref a := r
    rw [e, vals_refs t]; rfl
theorem lists_of {pins : List (Addr × Obj)} {σ : L2.St} {H : Hp} {s : Shared} (I : Inv X pins σ H s) : ∀ (as : List Addr) (zss : List (List V)), as.length = zss.length → (∀ (j : Nat) a zs, as[j]? = some a → zss[j]? = some zs → SqL X.K H a zs) →
    ∃ xss : List (List Value), as.length = xss.length ∧ (∀ (j : Nat) a xs, as[j]? = some a → xss[j]? = some xs → IsL s.heap a xs) ∧ Vals zss.flatten xss.flatten
  | [], [], _, _ => ⟨[], rfl, fun j a xs h => (by simp at h), .nil⟩
  | [], _ :: _, h, _ => by cases h
  | _ :: _, [], h, _ => by cases h
  | a :: as, zs :: zss, hl, h => by
    obtain ⟨xss, h1, h2, h3⟩ := lists_of I as zss (by simpa using hl) fun j b ys e1 e2 => h (j + 1) b ys (by simpa using e1) (by simpa using e2)
    obtain ⟨its, r, pl, _⟩ := I.list (h 0 a zs rfl rfl)
    refine ⟨its :: xss, by simp [h1], fun j b ys e1 e2 => ?_, by rw [List.flatten_cons, List.flatten_cons]; exact r.append h3⟩
    cases j with
    | zero =>
      simp at e1 e2
      subst e1 e2
      obtain ⟨⟨cls, dd, data, sl⟩, n, ho, hc, hd, hs⟩ := pl
      simp only at hc hd hs
      subst hc hd hs
      exact ⟨n, sl, ho⟩
    | succ j => exact h2 j b ys (by simpa using e1) (by simpa using e2)
end
theorem isList_of {h : Heap} {l : Addr} {its : Array Value} (p : PlainL h l its) : h.IsList l its := by
  obtain ⟨⟨cls, dd, data, sl⟩, n, ho, hc, hd, hs⟩ := p
  simp only at hc hd hs
  subst hc hd hs
  exact ⟨_, ho, rfl, n, rfl⟩
theorem cr_sum2 {X : Cx} (hc : X.calm = true) : CallR X (.builtin "sum") (rSum2 X.K) := by
  intro pins s σ H xs us Q I r h
  obtain ⟨p, q, as, ys, zss, rfl, hp, hq, hlen, hL, hz, q0, q1⟩ := h
  obtain ⟨u, w', rfl, r1, r2⟩ := vals2 r
  cases r1
  cases r2
  obtain ⟨its, rp, pl, _⟩ := I.list hp
  obtain ⟨_, its0, n0, rq, _, e0⟩ := I.lstM hq
  have ei := vals_refs rp
  subst ei
  obtain ⟨xss, h1, h2, h3⟩ := lists_of I as zss hlen hL
  have rv := rq.append h3
  have ev := rv.length
  refine sum_ls (I.ok.hd hc) (isList_of pl) ⟨n0, e0⟩ h1 h2 (by omega) fun h' tk t' k hl ht => ?_
  rcases ht with ⟨z, rfl⟩ | z
  · exact ⟨.ref _, H, I.kept k, rfl, q0 z⟩
  · obtain ⟨n, e⟩ := hl
    exact ⟨.ref t', _, I.laid (a := t') (o := .lst (ys ++ zss.flatten)) k z ⟨hz, _, n, rv, e⟩, rfl, q1 _ (I.hok.fresh z)⟩
section
variable [Tb] {c : CxD} {B : Bs} {a b : Expr} {sl sl1 sl2 : List Sl} {p q : Bool} {k1 : Kd} {pos p1 : Pos}
theorem trs_lists {K : PySem.W.Frag} {H : Hp} : ∀ {dss : List (List PyData)} {xs : List V}, Trs K H xs (dss.map .list) → ∃ (as : List Addr) (zss : List (List V)), xs = as.map V.ref ∧ as.length = zss.length ∧ as.length = dss.length ∧ (∀ (j : Nat) a zs, as[j]? = some a → zss[j]? = some zs → SqL K H a zs) ∧ Trs K H zss.flatten dss.flatten
  | [], _, h => by
    cases h
    exact ⟨[], [], rfl, rfl, rfl, fun j a zs h => (by simp at h), .nil⟩
  | ds :: dss, _, h => by
    cases h with
    | cons h t =>
      obtain ⟨a, zs, rfl, h1, h2⟩ := tr_lst h
      obtain ⟨as, zss, rfl, e1, e2, e3, e4⟩ := trs_lists t
      refine ⟨a :: as, zs :: zss, rfl, by simp [e1], by simp [e2], fun j b ys f1 f2 => ?_, by rw [List.flatten_cons, List.flatten_cons]; exact h2.app e4⟩
      cases j with
      | zero => simp at f1 f2; subst f1 f2; exact h1
      | succ j => exact e3 j b ys (by simpa using f1) (by simpa using f2)
/-- sum(xss, [..]) -/
theorem ev_sum2 {ds0 : List PyData} {dss : List (List PyData)} (ha : EV c B a sl p k1 sl1) (hb : EV c B b sl1 q (.fr (.lst ds0)) sl2) (h1 : LsK k1 (dss.map .list) := by first | exact .st | exact .ls | exact .fr) (hz : ds0.length + dss.flatten.length ≤ 1000000) (hk : (q || k1.firm) = true := by rfl) (hm : c.mg "sum" = none) (hg : c.sc.names.lookup ("sum" : Str) = some .globalImplicit := by rfl)
    (he : ∀ env, starEach [a, b] env = (false, eval a env) :: starEach [b] env := by intro env; rfl) (he2 : ∀ env, starEach [b] env = (false, eval b env) :: starEach [] env := by intro env; rfl) (hpl : ∀ env, (backTo pos (starEach [b] env)).any (·.1) = false := by intro env; rfl) :
    EV c B (.Call (.Name "sum" p1) [a, b] [] pos) sl (p && q) (.fr (.lst (ds0 ++ dss.flatten))) sl2 := by
  obtain ⟨ta, ga, sa⟩ := ha
  obtain ⟨tb, gb, sb⟩ := hb
  refine ⟨tCB (rSum2 c.K) (tCons ta (tCons tb tNil)), fun X hX => pe_callB (by rw [← hX.hK]; exact cr_sum2 hX.calm) (hX.g _ hg) (by rw [hX.hm]; exact hm) (by decide +kernel) (pa_cons (ga X hX) (pa_cons (gb X hX) pa_nil (he2 _)) (he _)) (by decide) (by decide) (he _) (hpl _), fun S H σ I Q fn => ?_⟩
  refine sa S H σ I _ fun x S1 H1 I1 a1 x1 f1 => sb S1 H1 σ I1 _ fun y S2 H2 I2 a2 x2 f2 => ?_
  obtain ⟨l, xs, rfl, hl, tx⟩ := h1.rd I2 (x1.adv a2 hk)
  have x2' := x2
  obtain ⟨m, rfl, n1, n2, ⟨ys, hy, ty⟩, _⟩ := x2'
  obtain ⟨as, zss, rfl, e1, e2, e3, e4⟩ := trs_lists tx
  refine ⟨l, m, as, ys, zss, rfl, hl, hy, e1, fun j a zs f1 f2 => I2.sh.seq (e3 j a zs f1 f2), ?_, fun z => ?_, fun z hn => (Mw.fin fn (a1.trans a2) fun h => h).fresh I2 hn (ty.app e4)⟩
  · have := ty.len; have := e4.len
    rw [List.length_append, sizeLine_eq]; omega
  · have hd : dss = [] := by
      subst z
      exact List.eq_nil_of_length_eq_zero e2.symm
    subst hd
    simp only [List.flatten_nil, List.append_nil] at fn
    exact fn _ S2 H2 I2 (a1.trans a2) x2 (f2.back a1)
end
end Mw

namespace Mw
open PySem PySem.Spec L2
variable [Tb]
variable {c : CxD} {B : Bs} {e a b elt iter test : Expr} {sl sl1 sl2 : List Sl} {p q z : Bool} {pos p1 p2 p3 : Pos} {k k1 : Kd} {ds : List PyData} {xs : List Int} {scope : Scope}
theorem fm_filter {α : Type} (g : α → Bool) : ∀ xs : List α, xs.filterMap (fun x => if g x = true then some x else none) = xs.filter g
  | [] => rfl
  | x :: r => by
    by_cases h : g x = true
    · rw [List.filterMap_cons_some (b := x) (by rw [if_pos h]), List.filter_cons_of_pos h, fm_filter g r]
    · rw [List.filterMap_cons_none (by rw [if_neg h]), List.filter_cons_of_neg h, fm_filter g r]
theorem evN_filter {nm : Str} {tp : Pos} (j : Nat) (g : Int → Bool) (hi : EI c B (.Name nm tp) iter sl p (nums xs) z sl1)
    (hs : ∀ (i : Nat) (x : Int), xs[i]? = some x → TV (c.blk scope) B test ((sl1.set j .no).set j (.val (.int x))) true (g x) ((sl1.set j .no).set j (.val (.int x))))
    (hl : xs.length ≤ 1000000) (hj : (sl1[j]?).isSome = true := by rfl) (hN : c.N[j]? = some nm := by rfl) (hv : Vis scope nm := by first | exact .inl rfl | exact .inr (.inl rfl) | exact .inr (.inr rfl)) (h1 : (nm == ("__debug__" : Str)) = false := by decide) (h2 : (nm == ("__classdict__" : Str)) = false := by decide) (hg : GT (c.blk scope) B (.Name nm tp) (.none) [j] (sl1.set j .no) ((sl1.set j .no).set j (.val .none)) := by exact gt_name _) (hg2 : ∀ d, GT (c.blk scope) B (.Name nm tp) d [j] (sl1.set j .no) ((sl1.set j .no).set j (.val d)) := by intro d; exact gt_name _)
    (ok : blkC c.N c.sc scope [(nm, j)] = true := by (try dsimp only [CxD.blk]); decide +kernel) (nd : c.N.Nodup := by assumption) (hf : ∀ env x, foldedSetIterable iter env x = pure x := by intro _ _; rfl) : EV c B (.ListComp (.Name nm p3) [⟨.Name nm tp, iter, [test], 0⟩] scope pos) sl p (.fr (.lst (nums (xs.filter g)))) sl1 :=
  (evN_comp j (fun x => if g x = true then some x else none) hi (fun i x hx => ⟨g x, tvs_one (hs i x hx), fun h => ⟨x, by rw [if_pos h], ev_val j (by rw [List.getElem?_set_self]; rw [List.length_set]; cases e : sl1[j]? with
    | none => rw [e] at hj; cases hj
    | some u => exact (List.getElem?_eq_some_iff.mp e).1) hN hv h1 h2⟩, fun h => by rw [if_neg (by rw [h]; decide)]⟩) hl hg hg2 ok nd hf).to (by rw [fm_filter])

/-! a comprehension whose test or value changes objects -/
section
variable {c : CxD} {B : Bs} {tg elt iter : Expr} {ifs : List Expr} {sl sl1 : List Sl} {p : Bool} {pos : Pos} {ds : List PyData} {scope : Scope} {own : List (Str × Nat)} {K : PySem.W.Frag} {S S' H H' : Hp} {σ σ' : L2.St}
def TVX (c : CxD) (B : Bs) (es : List Expr) (sl : List Sl) (p b : Bool) (sl' : List Sl) : Prop := ∃ t, (∀ X, InCx c X → PTs X es t) ∧ SemT c.K B t sl p b sl'
theorem tvx_nil : TVX c B [] sl true true sl := tvs_nil
theorem tvx_one {e : Expr} {b : Bool} (h : TV c B e sl p b sl1) : TVX c B [e] sl p b sl1 := by
  obtain ⟨t, h, hs⟩ := h
  exact ⟨_, fun X hX => pts_one (h X hX), hs⟩
theorem wipeS_get {sl : List Sl} {m : Nat} : ∀ {vs : List Nat}, (wipeS sl vs)[m]? = if m ∈ vs then (sl[m]?).map fun _ => .no else sl[m]?
  | [] => by simp [wipeS]
  | v :: vs => by
    have ih := wipeS_get (sl := sl) (m := m) (vs := vs)
    have hl : ∀ vs : List Nat, (wipeS sl vs).length = sl.length := fun vs => by
      induction vs with
      | nil => rfl
      | cons a r ih => unfold wipeS; rw [List.length_set, ih]
    unfold wipeS
    by_cases h : m = v
    · subst h
      rw [List.getElem?_set]
      simp only [if_true]
      rw [hl]
      by_cases hm : m < sl.length
      · simp [hm]
      · simp [hm]
    · rw [List.getElem?_set_ne (Ne.symm h), ih]
      simp [h]
theorem wipeS_idem {sl : List Sl} {vs : List Nat} : wipeS (wipeS sl vs) vs = wipeS sl vs := by
  refine List.ext_getElem? fun m => ?_
  rw [wipeS_get, wipeS_get]
  by_cases h : m ∈ vs
  · rw [if_pos h, if_pos h, Option.map_map]; rfl
  · rw [if_neg h, if_neg h]
/-- slots that hold no objects of their own -/
def plainAt (sl : List Sl) (vs : List Nat) : Bool := vs.all fun j => match sl[j]? with
  | some (.own _) => false
  | some (.io _ _) => false
  | some (.prv _ _) => false
  | _ => true
theorem plainAt_fp {sl : List Sl} {vs : List Nat} (h : plainAt sl vs = true) {j : Nat} {a : Addr} (hj : j ∈ vs) : ¬ FpAt σ sl j a := by
  rintro ⟨s, x, e1, e2, f⟩
  have := List.all_eq_true.mp h j hj
  rw [e1] at this
  rcases f with ⟨o, ho, _⟩ | ⟨d, fp, rfl, _⟩
  · cases s <;> first | (cases ho; done) | cases this
  · cases this
theorem plainAt_wipe {sl : List Sl} {vs : List Nat} : plainAt (wipeS sl vs) vs = true := List.all_eq_true.mpr fun j hj => by
  rw [wipeS_get, if_pos hj]
  cases sl[j]? <;> rfl
theorem ownAt_like {sl sl' : List Sl} {vs : List Nat} (hw : wipeS sl vs = wipeS sl' vs) (hp : plainAt sl vs = true) (hσ : ∀ j, j ∉ vs → σ[j]? = σ'[j]?) {a : Addr} (h : OwnAt σ sl a) : OwnAt σ' sl' a := by
  obtain ⟨j, f⟩ := h
  by_cases hj : j ∈ vs
  · exact absurd f (plainAt_fp hp hj)
  · obtain ⟨s, x, e1, e2, f⟩ := f
    have := congrArg (·[j]?) hw
    simp only [wipeS_get, if_neg hj] at this
    exact ⟨j, s, x, by rw [← this]; exact e1, by rw [← hσ j hj]; exact e2, f⟩
theorem Stt.unwipe {vs : List Nat} (I : Stt K B S H (L2.wipe σ vs) (wipeS sl vs)) : Stt K B S H σ (wipeS sl vs) where
  s0 := I.s0
  sh := I.sh
  new := I.new
  keep := I.keep
  dom := I.dom
  lsd := I.lsd
  len := by rw [← I.len, wipe_length]
  slot := fun i s e => by
    obtain ⟨x, hx, ok⟩ := I.slot i s e
    rw [wipe_get] at hx
    by_cases hi : i ∈ vs
    · rw [wipeS_get, if_pos hi] at e
      cases h1 : sl[i]? with
      | none => rw [h1] at e; cases e
      | some s1 =>
        rw [h1] at e
        cases e
        rw [if_pos hi] at hx
        cases h2 : σ[i]? with
        | none => rw [h2] at hx; cases hx
        | some y => exact ⟨y, rfl, trivial⟩
    · rw [if_neg hi] at hx
      exact ⟨x, hx, ok⟩
  dis := fun i j a h1 h2 => by
    have go : ∀ m, FpAt σ (wipeS sl vs) m a → FpAt (L2.wipe σ vs) (wipeS sl vs) m a := fun m h => by
      by_cases hm : m ∈ vs
      · exact absurd h (plainAt_fp plainAt_wipe hm)
      · obtain ⟨s, x, e1, e2, f⟩ := h
        exact ⟨s, x, e1, by rw [wipe_get, if_neg hm]; exact e2, f⟩
    exact I.dis i j a (go i h1) (go j h2)
  tabs := I.tabs
  tbk := I.tbk
  snt := I.snt
  sm := I.sm
theorem Stt.forgets (I : Stt K B S H σ sl) : ∀ vs : List Nat, Stt K B S H σ (wipeS sl vs)
  | [] => I
  | v :: vs => (Stt.forgets I vs).forget v
theorem compX_core (out : Nat → List PyData) (sls : Nat → List Sl) (hi : EI c B tg iter sl p ds true sl1) (h0 : out 0 = []) (hs0 : sls 0 = wipeS sl1 (own.map (·.2)))
    (hs : ∀ (i : Nat) (d : PyData), ds[i]? = some d → ∃ js s2 s3 s4 b q1 q2, GT (c.blk scope) B tg d js (sls i) s2 ∧ (∀ x ∈ js, x ∈ own.map (·.2)) ∧ plainAt s2 (own.map (·.2)) = true ∧ wipeS s2 (own.map (·.2)) = sls i ∧ TVX (c.blk scope) B ifs s2 q1 b s3 ∧
      (b = true → ∃ d', out (i + 1) = out i ++ [d'] ∧ EV (c.blk scope) B elt s3 q2 (.st d') s4 ∧ wipeS s4 (own.map (·.2)) = sls (i + 1)) ∧ (b = false → out (i + 1) = out i ∧ wipeS s3 (own.map (·.2)) = sls (i + 1)))
    (hl : ds.length ≤ 1000000) : ∃ wi g tt, (∀ X, InCx c X → PI X tg iter wi) ∧ (∀ X, InCx (c.blk scope) X → PG X tg g) ∧ (∀ X, InCx (c.blk scope) X → PTs X ifs tt) ∧
      SemE c.K B (tLc wi g tt (rE (c.blk scope) elt) (own.map (·.2))) sl false (.fr (.lst (out ds.length))) (sls ds.length) := by
  obtain ⟨wi, gi, si⟩ := hi
  let c' := c.blk scope
  let vs := own.map (·.2)
  let g : TG := fun v σ H Q => ∃ g : TG, (∀ X, InCx c' X → PG X tg g) ∧ g v σ H Q
  let tt : TT := fun σ H Q => ∃ t, (∀ X, InCx c' X → PTs X ifs t) ∧ t σ H Q
  have gP : ∀ X, InCx c' X → PG X tg g := fun X hX => ⟨fun pins s σ H v u Q I r ⟨g, hg, h⟩ => (hg X hX).run pins s σ H v u Q I r h⟩
  have tP : ∀ X, InCx c' X → PTs X ifs tt := fun X hX => ⟨fun pins s σ H Q I ⟨t, ht, h⟩ => (ht X hX).run pins s σ H Q I h⟩
  have wp : ∀ i ≤ ds.length, wipeS (sls i) vs = sls i := fun i hi => by
    cases i with
    | zero => rw [hs0]; exact wipeS_idem
    | succ i =>
      obtain ⟨js, s2, s3, s4, b, q1, q2, _, _, _, _, _, h1, h2⟩ := hs i _ (List.getElem?_eq_getElem (show i < ds.length by omega))
      cases b with
      | true =>
        obtain ⟨_, _, _, e⟩ := h1 rfl
        rw [← e]; exact wipeS_idem
      | false => rw [← (h2 rfl).2]; exact wipeS_idem
  have ol : ∀ i ≤ ds.length, (out i).length ≤ i := fun i => by
    induction i with
    | zero => intro _; rw [h0]; exact Nat.le_refl _
    | succ i ih =>
      intro hi
      have := ih (by omega)
      obtain ⟨js, s2, s3, s4, b, q1, q2, _, _, _, _, _, h1, h2⟩ := hs i _ (List.getElem?_eq_getElem (show i < ds.length by omega))
      cases b with
      | true =>
        obtain ⟨_, e, _⟩ := h1 rfl
        rw [e, List.length_append, List.length_singleton]; omega
      | false => rw [(h2 rfl).1]; omega
  refine ⟨wi, g, tt, gi, gP, tP, fun S H σ I Q fn => si S H σ I _ fun It S1 H1 I1 a1 it => ?_⟩
  · intro D nD
    obtain ⟨nS1, n01, naD⟩ := I1.notIn nD
    refine ⟨fun i m H => m = ds.length - i ∧ i ≤ ds.length ∧ ∃ S2 acc, Stt c.K B S2 H σ (sls i) ∧ Adv σ sl1 S1 H1 (sls i) S2 H false ∧ S2 D = none ∧ H D = some (.lst acc) ∧ Trs c.K S2 acc (out i),
      ⟨ds.length, by simp, Nat.zero_le _, S1, [], by rw [hs0]; exact (I1.laid nD).forgets _, ⟨.refl _, fun a o e1 e2 => (by rw [e1] at e2; cases e2), fun a o e => ⟨o, by rw [upd_ne (ne_of_none e nD)]; exact e⟩, fun a o e _ _ => by rw [upd_ne (ne_of_none e nD)]; exact e, (fun h => nomatch h), fun a h => ?_⟩, nS1, upd_same, by rw [h0]; exact .nil⟩, ?_⟩
    · rw [hs0] at h
      obtain ⟨j, s, x, e1, e2, f⟩ := h
      rw [wipeS_get] at e1
      split at e1
      · cases e3 : sl1[j]? with
        | none => rw [e3] at e1; cases e1
        | some s3 => rw [e3] at e1; cases e1; exact absurd f fpS_no
      · exact ⟨j, s, x, e1, e2, f⟩
    rintro i m H2 ⟨rfl, hil, S2, acc, I2, a2, nS2, hD, tacc⟩
    obtain ⟨it1, it2⟩ := it S2 H2 a2.s I2.sh (by rw [if_pos rfl]; exact same_sam (a2.s.trans I2.sh)) i
    by_cases hlt : i < ds.length
    · have hget := List.getElem?_eq_getElem hlt
      obtain ⟨go, yl⟩ := it1 _ hget
      refine .inr ⟨go, fun H' => ∃ S2 acc, Stt c.K B S2 H' σ (sls (i + 1)) ∧ Adv σ sl1 S1 H1 (sls (i + 1)) S2 H' false ∧ S2 D = none ∧ H' D = some (.lst acc) ∧ Trs c.K S2 acc (out (i + 1)),
        fun H' h => ⟨ds.length - (i + 1), by omega, rfl, hlt, h⟩, fun x H3 y => ?_⟩
      obtain ⟨S3, b1, b2, b3, b4, bn, tx⟩ := yl x H3 y
      have I3 := I2.grow b1 b3 b2 b4 (bn I2.snt)
      have a3 : Adv σ (sls i) S2 H2 (sls i) S3 H3 true := ⟨b1, b4, fun a o e => ⟨o, b3 _ _ e⟩, fun a o e _ _ => b3 _ _ e, fun _ => same_sam b3, fun _ h => h⟩
      have hD3 : H3 D = some (.lst acc) := b3 _ _ hD
      have n3 : S3 D = none := by
        cases e : S3 D with
        | none => rfl
        | some o =>
          have := b4 D o e nS2
          rw [hD] at this
          cases this
      obtain ⟨js, s2, s3, s4, b, q1, q2, ⟨g0, gp0, gs0⟩, hj, hp2, hw2, ⟨t0, tp0, ts0⟩, hy, hn⟩ := hs i _ hget
      have I3w : Stt c.K B S3 H3 (L2.wipe σ vs) (sls i) := by
        have := I3.wipe vs
        rwa [wp i hil] at this
      refine ⟨g0, gp0, gs0 S3 H3 _ x I3w tx _ fun σ' I' l' k' => ⟨wipe_same hj l' k', t0, tp0, ?_⟩⟩
      have hws : L2.wipe σ' vs = L2.wipe σ vs := wipe_same hj l' k'
      have hσ : ∀ j, j ∉ vs → σ'[j]? = σ[j]? := fun j hjv => by
        have := congrArg (·[j]?) hws
        simp only [wipe_get, if_neg hjv] at this
        exact this
      have toO : ∀ a, OwnAt σ' s2 a → OwnAt σ (sls i) a := fun a h => ownAt_like (by rw [hw2, wp i hil]) hp2 hσ h
      have naD2 : ¬ OwnAt σ (sls i) D := fun h => naD (a2.w D h)
      -- back in the def's own slots
      have back : ∀ {S4 H4 sE qq}, Stt c.K B S4 H4 σ' sE → Adv σ' s2 S3 H3 sE S4 H4 qq → wipeS sE vs = sls (i + 1) → Stt c.K B S4 H4 σ (sls (i + 1)) ∧ Adv σ (sls i) S3 H3 (sls (i + 1)) S4 H4 false ∧ S4 D = none ∧ H4 D = some (.lst acc) := fun {S4 H4 sE qq} J aa hE => by
        have J1 := J.wipe vs
        rw [hws] at J1
        have J2 := J1.unwipe
        rw [hE] at J2
        refine ⟨J2, ⟨aa.s, aa.n, aa.d, fun a o e ht hno => aa.k a o e ht fun h => hno (toO a h), (fun h => nomatch h), fun a h => ?_⟩, ?_, aa.k D _ hD3 (fun ps z => nomatch z) fun h => naD2 (toO D h)⟩
        · refine toO a (aa.w a ?_)
          rw [← hE] at h
          exact ownAt_like (σ := σ) (σ' := σ') wipeS_idem plainAt_wipe (fun j hj => (hσ j hj).symm) h
        · cases e : S4 D with
          | none => rfl
          | some o =>
            have := aa.n D o e n3
            rw [hD3] at this
            cases this
      refine ts0 S3 H3 σ' I' _ fun S4 H4 I4 a4 => ?_
      cases b with
      | true =>
        rw [if_pos rfl]
        obtain ⟨d', hd', ev, hE⟩ := hy rfl
        refine ev.rr S4 H4 σ' I4 _ fun y S5 H5 I5 a5 x5 _ => ?_
        obtain ⟨J, A5, nD5, hD5⟩ := back I5 (a4.trans a5) hE
        have A2 := (a2.trans a3).trans A5
        have naE : ¬ OwnAt σ (sls (i + 1)) D := fun h => naD (A2.w D h)
        refine ⟨acc, hD5, ?_, S5, acc ++ [y], J.side nD5 n01 naE hD5 lst_soft, ⟨A2.s, A2.n, fun a o e => ?_, fun a o e ht hno => ?_, (fun h => nomatch h), A2.w⟩, nD5, upd_same, ?_⟩
        · have e1 := tacc.len
          have e2 := ol i hil
          rw [sizeLine_eq]
          omega
        · rw [upd_ne (ne_of_none e nD)]; exact A2.d a o e
        · rw [upd_ne (ne_of_none e nD)]; exact A2.k a o e ht hno
        · rw [hd']
          exact (tacc.mono (a3.s.trans A5.s)).app (.one x5)
      | false =>
        rw [if_neg Bool.false_ne_true]
        obtain ⟨e1, hE⟩ := hn rfl
        obtain ⟨J, A5, nD5, hD5⟩ := back I4 a4 hE
        refine ⟨S4, acc, J, (a2.trans a3).trans A5, nD5, hD5, ?_⟩
        rw [e1]
        exact tacc.mono (a3.s.trans A5.s)
    · have e1 : i = ds.length := by omega
      subst e1
      refine .inl ⟨it2 (Nat.le_refl _), ?_⟩
      refine fn _ S2 H2 I2 ((a1.trans a2).weak fun h => nomatch h) ⟨D, rfl, nS2, n01, ⟨acc, hD, tacc⟩, fun h => naD (a2.w D h)⟩ fun l e => ?_
      cases e
      cases e2 : H D with
      | none => rfl
      | some o =>
        obtain ⟨o', e3⟩ := a1.d D o e2
        rw [nD] at e3
        cases e3
theorem ev_compX (own : List (Str × Nat)) (out : Nat → List PyData) (sls : Nat → List Sl) (hi : EI c B tg iter sl p ds true sl1)
    (hs : ∀ (i : Nat) (d : PyData), ds[i]? = some d → ∃ js s2 s3 s4 b q1 q2, GT (c.blk scope) B tg d js (sls i) s2 ∧ (∀ x ∈ js, x ∈ own.map (·.2)) ∧ plainAt s2 (own.map (·.2)) = true ∧ wipeS s2 (own.map (·.2)) = sls i ∧ TVX (c.blk scope) B ifs s2 q1 b s3 ∧
      (b = true → ∃ d', out (i + 1) = out i ++ [d'] ∧ EV (c.blk scope) B elt s3 q2 (.st d') s4 ∧ wipeS s4 (own.map (·.2)) = sls (i + 1)) ∧ (b = false → out (i + 1) = out i ∧ wipeS s3 (own.map (·.2)) = sls (i + 1)))
    (hl : ds.length ≤ 1000000) (h0 : out 0 = [] := by rfl) (hs0 : sls 0 = wipeS sl1 (own.map (·.2)) := by rfl) (ok : blkC c.N c.sc scope own = true := by (try dsimp only [CxD.blk]); decide +kernel) (nd : c.N.Nodup := by assumption) (hf : ∀ env x, foldedSetIterable iter env x = pure x := by intro _ _; rfl) : EV c B (.ListComp elt [⟨tg, iter, ifs, 0⟩] scope pos) sl false (.fr (.lst (out ds.length))) (sls ds.length) := by
  obtain ⟨wi, g, tt, gi, gP, tP, sem⟩ := compX_core out sls hi h0 hs0 hs hl
  have sk : scope.kind = .function := (blkOk_by ok).kind
  exact ⟨_, fun X hX => pe_lc hX.calm (by rw [hX.hN]; exact nd) (gi X hX) (blk_in hX ok) (fun s H C cl fp => gP _ (hX.block sk)) (fun s H C cl fp => tP _ (hX.block sk)) (fun s H C cl fp => pe_rE (hX.block sk)) (hf _), sem⟩
theorem go_setX {R : Rt} {rest : List Stmt} {p1 p2 : Pos} (i : Nat) {y : Str} (own : List (Str × Nat)) (out : Nat → List PyData) (sls : Nat → List Sl) (hi : EI c B tg iter sl p ds true sl1)
    (hs : ∀ (i : Nat) (d : PyData), ds[i]? = some d → ∃ js s2 s3 s4 b q1 q2, GT (c.blk scope) B tg d js (sls i) s2 ∧ (∀ x ∈ js, x ∈ own.map (·.2)) ∧ plainAt s2 (own.map (·.2)) = true ∧ wipeS s2 (own.map (·.2)) = sls i ∧ TVX (c.blk scope) B ifs s2 q1 b s3 ∧
      (b = true → ∃ d', out (i + 1) = out i ++ [d'] ∧ EV (c.blk scope) B elt s3 q2 (.st d') s4 ∧ wipeS s4 (own.map (·.2)) = sls (i + 1)) ∧ (b = false → out (i + 1) = out i ∧ wipeS s3 (own.map (·.2)) = sls (i + 1)))
    (h2 : GO c B rest ((sls ds.length).set i (.own (.lst (out ds.length)))) R) (hl : ds.length ≤ 1000000) (hii : ((sls ds.length)[i]?).isSome = true := by rfl) (h0 : out 0 = [] := by rfl) (hs0 : sls 0 = wipeS sl1 (own.map (·.2)) := by rfl) (ok : blkC c.N c.sc scope own = true := by (try dsimp only [CxD.blk]); decide +kernel) (hN : c.N[i]? = some y := by rfl) (nd : c.N.Nodup := by assumption) (hx : c.sc.names.lookup y = some .local := by rfl) (hk : (scope.names.any fun (n, k) => n == y && (k == .local || k == .cell)) = false := by decide +kernel) (hln : (p1.line == pos.line) = true := by rfl)
    (hf : ∀ env x, foldedSetIterable iter env x = pure x := by intro _ _; rfl) : GO c B (.Assign [.Name y p1] (.ListComp elt [⟨tg, iter, ifs, 0⟩] scope pos) p2 :: rest) sl R := by
  refine go_to ?_ h2
  obtain ⟨wi, g, tt, gi, gP, tP, sem⟩ := compX_core out sls hi h0 hs0 hs hl
  have sk : scope.kind = .function := (blkOk_by ok).kind
  refine ⟨_, fun X hX => ps_setLc hX.calm (by rw [hX.hN]; exact nd) (by rw [hX.hN]; exact hN) (hX.l _ hx) (sw_true hX.kind (hX.l _ hx) hln hk) (gi X hX) (blk_in hX ok) (fun s H C cl fp => gP _ (hX.block sk)) (fun s H C cl fp => tP _ (hX.block sk)) (fun s H C cl fp => pe_rE (hX.block sk)) (hf _), fun S H σ I D q => ?_⟩
  exact sem S H σ I _ fun v S1 H1 I1 a1 x1 _ => q.nx S1 H1 _ _ a1.s (I1.set x1 hii) rfl
/-- name = [..], pure -/
theorem go_setC {R : Rt} {z : Bool} {rest : List Stmt} {p1 p2 : Pos} (i : Nat) {y : Str} (own : List (Str × Nat)) (f : PyData → Option PyData) {es : List PyData} (hi : EI c B tg iter sl p ds z sl1)
    (hs : ∀ (i : Nat) (d : PyData), ds[i]? = some d → ∃ js s2 b, GT (c.blk scope) B tg d js (wipeS sl1 (own.map (·.2))) s2 ∧ (∀ x ∈ js, x ∈ own.map (·.2)) ∧ TVs (c.blk scope) B ifs s2 b ∧ (b = true → ∃ d', f d = some d' ∧ EV (c.blk scope) B elt s2 true (.st d') s2) ∧ (b = false → f d = none))
    (hl : ds.length ≤ 1000000) (he : ds.filterMap f = es) (h2 : GO c B rest (sl1.set i (.own (.lst es))) R) (ok : blkC c.N c.sc scope own = true := by (try dsimp only [CxD.blk]); decide +kernel) (hii : (sl1[i]?).isSome = true := by rfl) (hN : c.N[i]? = some y := by rfl) (nd : c.N.Nodup := by assumption) (hx : c.sc.names.lookup y = some .local := by rfl) (hk : (scope.names.any fun (n, k) => n == y && (k == .local || k == .cell)) = false := by decide +kernel) (hln : (p1.line == pos.line) = true := by rfl)
    (hf : ∀ env x, foldedSetIterable iter env x = pure x := by intro _ _; rfl) : GO c B (.Assign [.Name y p1] (.ListComp elt [⟨tg, iter, ifs, 0⟩] scope pos) p2 :: rest) sl R :=
  go_to (g1_setC i own f hi hs (by rw [he]) hl ok hii hN nd hx hk hln hf) h2
end
end Mw

/-! NwZG: sets of ints: len(set(xs)). -/
namespace Mw
open PySem PySem.Spec L2 PyProof.Rows
/-- the numbers of a list, each once, as first met -/
def dst (xs : List Int) : List Int := xs.foldl (fun t v => if v ∈ t then t else t ++ [v]) []
theorem dst_fold : ∀ (xs t : List Int), t.Nodup → (xs.foldl (fun t v => if v ∈ t then t else t ++ [v]) t).Nodup ∧ ∀ k, k ∈ xs.foldl (fun t v => if v ∈ t then t else t ++ [v]) t ↔ k ∈ t ∨ k ∈ xs
  | [], t, h => ⟨h, fun k => by simp⟩
  | x :: r, t, h => by
    rw [List.foldl_cons]
    by_cases hx : x ∈ t
    · rw [if_pos hx]
      obtain ⟨h1, h2⟩ := dst_fold r t h
      refine ⟨h1, fun k => ?_⟩
      rw [h2, List.mem_cons]
      constructor
      · rintro (a | a)
        · exact .inl a
        · exact .inr (.inr a)
      · rintro (a | rfl | a)
        · exact .inl a
        · exact .inl hx
        · exact .inr a
    · rw [if_neg hx]
      obtain ⟨h1, h2⟩ := dst_fold r (t ++ [x]) (List.nodup_append.mpr ⟨h, by simp, fun a ha b hb e => by rw [List.mem_singleton.mp hb] at e; exact hx (e ▸ ha)⟩)
      refine ⟨h1, fun k => ?_⟩
      rw [h2, List.mem_cons, List.mem_append, List.mem_singleton, or_assoc]
theorem dst_nodup (xs : List Int) : (dst xs).Nodup := (dst_fold xs [] List.nodup_nil).1
theorem mem_dst {xs : List Int} {k : Int} : k ∈ dst xs ↔ k ∈ xs := by unfold dst; rw [(dst_fold xs [] List.nodup_nil).2]; simp
theorem dst_fold_len : ∀ (xs t : List Int), t.Nodup → (xs.foldl (fun t v => if v ∈ t then t else t ++ [v]) t).length ≤ t.length + xs.length ∧ ((xs.foldl (fun t v => if v ∈ t then t else t ++ [v]) t).length = t.length + xs.length ↔ (t ++ xs).Nodup)
  | [], t, h => ⟨by simp, by simp [h]⟩
  | x :: r, t, h => by
    rw [List.foldl_cons]
    by_cases hx : x ∈ t
    · rw [if_pos hx]
      obtain ⟨h1, _⟩ := dst_fold_len r t h
      rw [List.length_cons]
      refine ⟨by omega, fun e => by omega, fun e => ?_⟩
      exact absurd rfl ((List.nodup_append.mp e).2.2 x hx x (by simp))
    · rw [if_neg hx]
      have ht : (t ++ [x]).Nodup := List.nodup_append.mpr ⟨h, by simp, fun a ha b hb e => by rw [List.mem_singleton.mp hb] at e; exact hx (e ▸ ha)⟩
      obtain ⟨h1, h2⟩ := dst_fold_len r (t ++ [x]) ht
      rw [List.length_append, List.length_singleton] at h1 h2
      rw [List.length_cons]
      refine ⟨by omega, ?_⟩
      rw [show t.length + (r.length + 1) = t.length + 1 + r.length by omega, h2, List.append_assoc]; rfl
theorem dst_len (xs : List Int) : (dst xs).length ≤ xs.length := by have := (dst_fold_len xs [] List.nodup_nil).1; unfold dst; simpa using this
theorem dst_full (xs : List Int) : (dst xs).length = xs.length ↔ xs.Nodup := by have := (dst_fold_len xs [] List.nodup_nil).2; unfold dst; simpa using this
theorem dst_first (ns : List Int) : firstMet (fun i => ns.getD i 0) ns.length = dst ns := by
  have e : (List.range ns.length).map (fun i => ns.getD i 0) = ns := by
    refine List.ext_getElem? fun i => ?_
    rw [List.getElem?_map]
    by_cases h : i < ns.length
    · rw [List.getElem?_range h, List.getElem?_eq_getElem h]
      simp [List.getD_eq_getElem?_getD, List.getElem?_eq_getElem h]
    · rw [List.getElem?_eq_none (by omega : ns.length ≤ i), List.getElem?_eq_none (by rw [List.length_range]; omega)]; rfl
  unfold firstMet
  rw [e]
  have f : (step_dedup : List Int → Int → List Int) = fun t v => if v ∈ t then t else t ++ [v] := by
    funext t v
    unfold step_dedup
    have : (t.any (· == v)) = decide (v ∈ t) := by
      rw [Bool.eq_iff_iff, List.any_eq_true, decide_eq_true_eq]
      exact ⟨fun ⟨x, hx, e⟩ => by rw [← beq_iff_eq.mp e]; exact hx, fun h => ⟨v, h, beq_self_eq_true v⟩⟩
    rw [this]
    by_cases h : v ∈ t <;> simp [h]
  rw [f]; rfl
section
variable {X : Cx}
def tLenSetG (K : PySem.W.Frag) (ta : TE) : TE := fun σ H Q => ta σ H fun x H1 => ∃ (l : Addr) (ns : List Int), x = V.ref l ∧ SqL K H1 l (ns.map V.int) ∧ ns.length ≤ 4000 ∧ Q (.int (dst ns).length) H1
theorem pe_lenSetG {a : Expr} {ta : TE} {p p2 q pos : Pos} (hc : X.calm = true) (g1 : Gl X "len") (m1 : X.mg "len" = none) (g2 : Gl X "set") (m2 : X.mg "set" = none) (ha : PE X a ta)
    (st : starEach [a] X.env = (false, eval a X.env) :: starEach [] X.env) : PE X (.Call (.Name "len" p) [.Call (.Name "set" p2) [a] [] q] [] pos) (tLenSetG X.K ta) :=
  ⟨fun pins s σ H Q I h => by
    refine Call_ (ld_blt I g1 m1 PySem.boot_len (PyProof.Rows.callWith_builtin1 (PyProof.Rows.args_cons (Call_ (ld_blt I g2 m2 PyProof.Rows.boot_set (PyProof.Rows.callWith_type1 (PyProof.Rows.args_cons (thn (ha.run pins s σ H _ I h) ?_) st) st rfl))) rfl) rfl rfl))
    rintro v s1 ⟨x, H1, I1, r1, l, ns, rfl, hq, hl, q1⟩
    cases r1
    refine PyProof.Rows.args_nil ?_
    obtain ⟨its, r, pl, -⟩ := I1.list hq
    have hl2 : its.toArray.size = ns.length := by rw [List.size_toArray, ← r.length, List.length_map]
    refine call_set_list (I1.ok.hd hc) pl.isList (by simpa using r.ints) (by unfold scanBound; omega) fun h' tk hS hk => PyProof.Rows.args_nil ?_
    rw [hl2, dst_first] at hS
    obtain ⟨o, es, ep, t, ho, hex, hd, -, -, -, hf, hn⟩ := hS
    have hb := dst_len ns
    refine call_len_set ho hex hd hf (by rw [hn]; omega) ⟨.int (dst ns).length, H1, (I1.kept fun b o e => hk b o (Heap.lt_size e) e).tok _, ⟨_, by rw [hn]⟩, q1⟩⟩
end
variable [Tb]
variable {c : CxD} {B : Bs} {a : Expr} {sl sl1 : List Sl} {p : Bool} {k1 : Kd} {xs : List Int} {p1 p2 q pos : Pos}
theorem ev_lenSet (ha : EV c B a sl p k1 sl1) (m1 : c.mg "len" = none) (m2 : c.mg "set" = none) (hb : xs.length ≤ 4000) (hl : LsK k1 (nums xs) := by first | exact .st | exact .ls | exact .fr) (g1 : c.sc.names.lookup ("len" : Str) = some .globalImplicit := by rfl) (g2 : c.sc.names.lookup ("set" : Str) = some .globalImplicit := by rfl)
    (st : ∀ env, starEach [a] env = (false, eval a env) :: starEach [] env := by intro env; rfl) : EV c B (.Call (.Name "len" p1) [.Call (.Name "set" p2) [a] [] q] [] pos) sl p (.st (.int ((dst xs).length : Nat))) sl1 := by
  obtain ⟨ta, ha, hs⟩ := ha
  refine ⟨tLenSetG c.K ta, fun X hX => by
    have := pe_lenSetG (p := p1) (p2 := p2) (q := q) (pos := pos) hX.calm (hX.gl g1) (by rw [hX.hm]; exact m1) (hX.gl g2) (by rw [hX.hm]; exact m2) (ha X hX) (st _)
    rwa [hX.hK] at this, fun S H σ I Q fn => hs S H σ I _ fun v S1 H1 I1 a1 x1 _ => ?_⟩
  obtain ⟨l, vs, rfl, h1, t⟩ := hl.rd I1 x1
  exact ⟨l, xs, rfl, trs_nums_eq t ▸ h1, hb, fn _ S1 H1 I1 a1 (.int _) trivial⟩
end Mw

/-! NwZH: trees that are handed on: new ones, or taken out of slots. -/
namespace Mw
open PySem PySem.Spec L2
variable [Tb]
def EVG (c : CxD) (B : Bs) (e : Expr) (sl : List Sl) (p : Bool) (t : PTr) (sl' : List Sl) : Prop :=
  ∃ r, (∀ X, InCx c X → PE X e r) ∧ ∀ S H σ, Stt c.K B S H σ sl → ∀ Q : VK, (∀ v S' H' fp, Stt c.K B S' H' σ sl' → Adv σ sl S H sl' S' H' p → TrP c.K S' H' fp v t → fp.Nodup → (∀ a ∈ fp, S' a = none ∧ B.H0 a = none ∧ ¬ OwnAt σ sl' a ∧ (OwnAt σ sl a ∨ H a = none)) → Q v H') → r σ H Q
def AVG (c : CxD) (B : Bs) (es : List Expr) (sl : List Sl) (p : Bool) (ts : List PTr) (sl' : List Sl) : Prop :=
  ∃ r, (∀ X, InCx c X → PA X es r) ∧ ∀ S H σ, Stt c.K B S H σ sl → ∀ Q : List V → Hp → Prop, (∀ vs S' H' fp, Stt c.K B S' H' σ sl' → Adv σ sl S H sl' S' H' p → TrPs c.K S' H' fp vs ts → fp.Nodup → (∀ a ∈ fp, S' a = none ∧ B.H0 a = none ∧ ¬ OwnAt σ sl' a ∧ (OwnAt σ sl a ∨ H a = none)) → Q vs H') → r σ H Q
def PTr.sl : PTr → List Addr → Sl
  | .st d, _ => .val d
  | .ls ds, _ => .own (.lst ds)
  | t, f => .prv t f
section
variable {c : CxD} {B : Bs} {tg e a b d3 : Expr} {es : List Expr} {ss rest : List Stmt} {sl sl1 sl2 sl3 : List Sl} {p q : Bool} {k k1 k2 : Kd} {pos p1 p2 p3 p4 p5 : Pos} {R : Rt} {d : PyData} {ds ds' : List PyData} {t t1 t2 t3 : PTr} {ts : List PTr} {i : Nat} {nm : Str} {fp : List Addr} {o : Ow}
theorem evg_p (h : EVP c B e sl p t sl1) : EVG c B e sl p t sl1 := by
  obtain ⟨r, g, s⟩ := h
  exact ⟨r, g, fun S H σ I Q fn => s S H σ I Q fun v S1 H1 f I1 a1 tp nd n => fn v S1 H1 f I1 a1 tp nd fun a m => ⟨(n a m).1, (n a m).2.1, (n a m).2.2.1, .inr (n a m).2.2.2⟩⟩
theorem EVG.to (h : EVG c B e sl p t sl1) {t' : PTr} (hk : t = t') : EVG c B e sl p t' sl1 := hk ▸ h
theorem adv_forget {σ : L2.St} {S H : Hp} : Adv σ sl S H (sl.set i .no) S H p := ⟨.refl _, fun a o h1 h2 => (by rw [h1] at h2; cases h2), fun a o h => ⟨o, h⟩, fun a o h _ _ => h, fun _ => .refl _, fun a h => by
  rcases ownAt_setS h with h | ⟨x, _, f⟩
  · exact h
  · exact absurd f fpS_no⟩
theorem evg_own (i : Nat) (hs : sl[i]? = some (.own (.lst ds)) := by rfl) (n : Nm c i nm := by exact ⟨rfl, by first | exact .inl rfl | exact .inr (.inl rfl) | exact .inr (.inr rfl), by decide, by decide⟩) : EVG c B (.Name nm pos) sl true (.ls ds) (sl.set i .no) :=
  ⟨tVar i, fun X hX => n.pe hX, fun S H σ I Q q => by
    obtain ⟨y, hy, l, rfl, nS, ⟨xs, hl, tx⟩, n0⟩ := I.slot i _ hs
    refine ⟨_, hy, q _ S H [l] (I.forget i) adv_forget (.ls hl tx) (by simp) fun a m => ?_⟩
    rw [List.mem_singleton.mp m]
    refine ⟨nS, n0, fun ⟨j, z⟩ => ?_, .inl ⟨i, _, _, hs, hy, fpS_own.mpr rfl⟩⟩
    rcases fpAt_setS z with ⟨h1, f1⟩ | ⟨h1, _, _, f1⟩
    · exact h1 (I.dis j i l f1 ⟨_, _, hs, hy, fpS_own.mpr rfl⟩)
    · exact fpS_no f1⟩
theorem evg_m (h : EVM c B e sl i t) : EVG c B e sl true t (sl.set i .no) := by
  obtain ⟨r, g, s⟩ := h
  refine ⟨r, g, fun S H σ I Q fn => s S H σ I Q fun v S1 H1 f I1 a1 tp nd n => fn v S1 H1 f (I1.forget i) (a1.trans adv_forget) tp nd fun a m => ?_⟩
  obtain ⟨z1, z2, z3⟩ := n a m
  refine ⟨z1, z2, fun ⟨j, z⟩ => ?_, .inl (a1.w a ⟨i, z3⟩)⟩
  rcases fpAt_setS z with ⟨h1, f1⟩ | ⟨h1, _, _, f1⟩
  · exact h1 (I1.dis j i a f1 z3)
  · exact fpS_no f1
theorem avg_nil : AVG c B [] sl true [] sl := ⟨tNil, fun _ _ => pa_nil, fun S H σ I Q q => q [] S H [] I .refl .nil (by simp) (fun a m => absurd m (by simp))⟩
theorem avg_cons (ha : EVG c B e sl p t sl1) (hr : AVG c B es sl1 q ts sl2) (hs : ∀ env, starEach (e :: es) env = (false, eval e env) :: starEach es env := by intro env; rfl) : AVG c B (e :: es) sl (p && q) (t :: ts) sl2 := by
  obtain ⟨ta, ga, sa⟩ := ha
  obtain ⟨tb, gb, sb⟩ := hr
  refine ⟨tCons ta tb, fun X hX => pa_cons (ga X hX) (gb X hX) (hs _), fun S H σ I Q fn => ?_⟩
  refine sa S H σ I _ fun x S1 H1 f1 I1 a1 x1 nd1 n1 => sb S1 H1 σ I1 _ fun vs S2 H2 f2 I2 a2 x2 nd2 n2 => ?_
  have up : ∀ b ∈ f1, H2 b = H1 b ∧ S2 b = none ∧ ¬ OwnAt σ sl2 b := fun b m => by
    obtain ⟨u, eu, nu⟩ := x1.dom b m
    obtain ⟨z1, z2, z3, z4⟩ := n1 b m
    exact ⟨(a2.k b u eu (Hard.nt nu) z3).trans eu.symm, a2.notS eu z1, fun z => z3 (a2.w b z)⟩
  refine fn _ S2 H2 (f1 ++ f2) I2 (a1.trans a2) (.cons (x1.ext a2.s fun b m => (up b m).1) x2) ?_ fun b m => ?_
  · refine List.nodup_append.mpr ⟨nd1, nd2, fun b hb b' hb' e => ?_⟩
    subst e
    obtain ⟨u, eu, _⟩ := x1.dom b hb
    rcases (n2 b hb').2.2.2 with z | z
    · exact (n1 b hb).2.2.1 z
    · rw [eu] at z; cases z
  · rcases List.mem_append.mp m with m | m
    · exact ⟨(up b m).2.1, (n1 b m).2.1, (up b m).2.2, (n1 b m).2.2.2⟩
    · obtain ⟨z1, z2, z3, z4⟩ := n2 b m
      refine ⟨z1, z2, z3, ?_⟩
      rcases z4 with z | z
      · exact .inl (a1.w b z)
      · exact .inr (a1.new z)
theorem evg_lst (ha : AVG c B es sl p ts sl1) (hl : ts.length ≤ 1000000 := by exact Nat.le_of_ble_eq_true rfl) : EVG c B (.List es pos) sl p (.lst ts) sl1 := by
  obtain ⟨ta, ga, sa⟩ := ha
  refine ⟨tLst ta, fun X hX => pe_lst (ga X hX), fun S H σ I Q fn => sa S H σ I _ fun vs S1 H1 fp I1 a1 x1 nd n => ⟨by rw [x1.len, sizeLine_eq]; omega, fun l hl => ?_⟩⟩
  obtain ⟨w1, w2, w3⟩ := I1.notIn hl
  have nl : l ∉ fp := fun m => by obtain ⟨u, eu, _⟩ := x1.dom l m; rw [hl] at eu; cases eu
  refine fn _ S1 _ (l :: fp) (I1.laid hl) ((a1.trans (.same (same_new hl) (p := true))).weak fun h => by rw [h]; rfl) (.lst upd_same (x1.ext (.refl _) fun b m => upd_ne fun z => nl (by rw [← z]; exact m))) (List.nodup_cons.mpr ⟨nl, nd⟩) fun b m => ?_
  rcases List.mem_cons.mp m with e | m
  · rw [e]; exact ⟨w1, w2, w3, .inr (a1.new hl)⟩
  · exact n b m
theorem evg_tup {x1 : Nat} (ha : AVG c B es sl p ts sl1) (hl : ts.length ≤ 1000000 := by exact Nat.le_of_ble_eq_true rfl) : EVG c B (.Tuple es x1 pos) sl p (.tup ts) sl1 := by
  obtain ⟨ta, ga, sa⟩ := ha
  refine ⟨tTup ta, fun X hX => pe_tup (ga X hX), fun S H σ I Q fn => sa S H σ I _ fun vs S1 H1 fp I1 a1 x1 nd n => ⟨by rw [x1.len, sizeLine_eq]; omega, fun l hl => ?_⟩⟩
  obtain ⟨w1, w2, w3⟩ := I1.notIn hl
  have nl : l ∉ fp := fun m => by obtain ⟨u, eu, _⟩ := x1.dom l m; rw [hl] at eu; cases eu
  refine fn _ S1 _ (l :: fp) (I1.laid hl) ((a1.trans (.same (same_new hl) (p := true))).weak fun h => by rw [h]; rfl) (.tup upd_same (x1.ext (.refl _) fun b m => upd_ne fun z => nl (by rw [← z]; exact m))) (List.nodup_cons.mpr ⟨nl, nd⟩) fun b m => ?_
  rcases List.mem_cons.mp m with e | m
  · rw [e]; exact ⟨w1, w2, w3, .inr (a1.new hl)⟩
  · exact n b m
/-- return a tree -/
theorem go_retG (h : EVG c B e sl p t sl1) (hr : R.rt (.ft t) sl1) : GO c B (.Return (some e) pos :: rest) sl R := by
  obtain ⟨r, ge, hs⟩ := h
  refine go_cons (M := fun _ => False) ⟨tRet r, fun X hX => ps_ret (ge X hX), fun S H σ I D q => ?_⟩ fun _ h => h.elim
  exact hs S H σ I _ fun v S1 H1 fp I1 a1 x1 nd n => q.rt S1 H1 σ sl1 v (.ft t) a1.s I1 ⟨fp, x1, nd, fun b m => ⟨(n b m).1, (n b m).2.1, (n b m).2.2.1⟩⟩ hr
/-- e[n] of a new tuple; the rest is given up -/
theorem evp_ixT (n : Nat) (h : EVP c B a sl p (.tup ts) sl1) (hb : EV c B b sl1 true (.st (.int (n : Nat))) sl1) (hn : ts[n]? = some t) (hpx : PlainIx b := by exact fun _ _ => rfl) : EVP c B (.Subscript a b pos) sl p t sl1 := by
  obtain ⟨ta, ga, sa⟩ := h
  obtain ⟨tx, gx, sx⟩ := hb
  refine ⟨tOp (rIxT c.K) ta tx, fun X hX => pe_ix (by rw [← hX.hK]; exact ix_tup) (ga X hX) (gx X hX) hpx, fun S H σ I Q fn => ?_⟩
  refine sa S H σ I _ fun v S1 H1 f I1 a1 tp nd n1 => sx S1 H1 σ I1 _ fun w S2 H2 I2 a2 x2 _ => ?_
  have ag : ∀ a ∈ f, H2 a = H1 a := fun a m => by
    obtain ⟨u, eu, nu⟩ := tp.dom a m
    exact ((a2.h rfl).st _ _ eu (Hard.nt nu)).trans eu.symm
  have tp2 := tp.ext a2.s ag
  obtain ⟨l, xs, f0, rfl, rfl, e0, t0⟩ := trp_tup tp2
  obtain ⟨y, hy⟩ : ∃ y, xs[n]? = some y := by
    have := (List.getElem?_eq_some_iff.mp hn).1
    exact ⟨_, List.getElem?_eq_getElem (by rw [t0.len]; exact this)⟩
  refine ⟨l, xs, (n : Nat), y, rfl, tr_int x2, .inl (.inl e0), atI_nat hy, ?_⟩
  obtain ⟨g0, g, g1, eg, tg, _⟩ := t0.split n hy hn
  have sub : ∀ a ∈ g, a ∈ l :: f0 := fun a m => List.mem_cons_of_mem _ (by rw [eg]; simp [m])
  refine fn y S2 H2 g I2 ((a1.trans a2).weak fun h => by rw [h]; rfl) tg ?_ fun a m => ?_
  · have := (List.nodup_cons.mp nd).2
    rw [eg] at this
    exact (List.nodup_append.mp (List.nodup_append.mp this).2.1).1
  · obtain ⟨z1, z2, z3, z4⟩ := n1 a (sub a m)
    obtain ⟨u, eu, _⟩ := tp.dom a (sub a m)
    exact ⟨a2.notS eu z1, z2, fun z => z3 (a2.w a z), z4⟩
theorem EVP.fr (h : EVP c B e sl p (.ls ds) sl1) : EV c B e sl p (.fr (.lst ds)) sl1 := by
  obtain ⟨r, hr, hs⟩ := h
  refine ⟨r, hr, fun S H σ I Q q => hs S H σ I Q fun v S' H' fp I' a x nd n => ?_⟩
  obtain ⟨l, xs, rfl, rfl, e, tx⟩ := trp_ls x
  obtain ⟨z1, z2, z3, z4⟩ := n l (by simp)
  exact q _ S' H' I' a ⟨l, rfl, z1, z2, ⟨xs, e, tx⟩, z3⟩ fun l' e' => by cases e'; exact z4
theorem EVP.st (h : EVP c B e sl p (.st d) sl1) : EV c B e sl p (.st d) sl1 := by
  obtain ⟨r, hr, hs⟩ := h
  exact ⟨r, hr, fun S H σ I Q q => hs S H σ I Q fun v S' H' fp I' a x nd n => q _ S' H' I' a (trp_st x).2 trivial⟩
/-- a def that gives a new list, as a tree -/
theorem evp_of_fr (h : EV c B e sl p (.fr (.lst ds)) sl1) : EVP c B e sl p (.ls ds) sl1 := evp_fr h
theorem slot_t {K : PySem.W.Frag} {S H : Hp} {v : V} {f : List Addr} (h : TrP K S H f v t) (nd : f.Nodup) (n : ∀ a ∈ f, S a = none ∧ B.H0 a = none) : SlOk K B S H (some v) (t.sl f) ∧ ∀ a, FpS (t.sl f) (some v) a → a ∈ f := by
  cases t with
  | st d => exact ⟨⟨v, rfl, (trp_st h).2⟩, fun a z => absurd z fpS_val⟩
  | ls ds =>
    obtain ⟨l, xs, rfl, rfl, e, tx⟩ := trp_ls h
    exact ⟨⟨l, rfl, (n l (by simp)).1, ⟨xs, e, tx⟩, (n l (by simp)).2⟩, fun a z => by cases fpS_own.mp z; simp⟩
  | lst ts => exact ⟨⟨v, rfl, h, nd, n⟩, fun a z => fpS_prv.mp z⟩
  | tup ts => exact ⟨⟨v, rfl, h, nd, n⟩, fun a z => fpS_prv.mp z⟩
  | dct ts => exact ⟨⟨v, rfl, h, nd, n⟩, fun a z => fpS_prv.mp z⟩
theorem go_setG (i : Nat) {x : Str} (h : EVG c B e sl p t sl1) (h2 : ∀ fp, GO c B rest (sl1.set i (t.sl fp)) R) (hi : (sl1[i]?).isSome = true := by rfl) (hN : c.N[i]? = some x := by rfl) (nd : c.N.Nodup := by assumption) (hx : c.sc.names.lookup x = some .local ∨ c.sc.names.lookup x = some .cell := by first | exact .inl rfl | exact .inr rfl)
    (hsw : ∀ X, InCx c X → swapsWith e (some (.Name x p1)) pos.line X.env = pure false := by intro _ _; rfl) : GO c B (.Assign [.Name x p1] e pos :: rest) sl R := by
  obtain ⟨r, ge, hs⟩ := h
  refine ⟨tSeq (tAsg r (gName i)) (rB c rest), fun X hX => pss_cons (ps_set (by rw [hX.hN]; exact nd) (by rw [hX.hN]; exact hN) (hX.loc hx).1 (ge X hX) (hsw X hX) (hX.loc hx).2) (ps_rB hX), fun S H σ I D q => ?_⟩
  refine hs S H σ I _ fun v S1 H1 fp I1 a1 x1 nd1 n => ?_
  obtain ⟨ok, sub⟩ := slot_t (B := B) x1 nd1 fun b m => ⟨(n b m).1, (n b m).2.1⟩
  exact (h2 fp).rr S1 H1 _ (I1.put (i := i) _ ok (fun b m => (n b (sub b m)).2.2.1) hi) D (q.up a1.s)
/-- the items of a tuple or a list -/
inductive Seq2 : PTr → List PTr → Prop
  | tup {ts : List PTr} : Seq2 (.tup ts) ts
  | lst {ts : List PTr} : Seq2 (.lst ts) ts
/-- slots filled one after the other -/
def putAll (sl : List Sl) : List (Nat × PTr × List Addr) → List Sl
  | [] => sl
  | (j, t, f) :: r => putAll (sl.set j (t.sl f)) r
/-- the names of a target -/
inductive Tgs (c : CxD) : List Expr → List Nat → Prop
  | nil : Tgs c [] []
  | cons {x : Str} {px : Pos} {es : List Expr} {j : Nat} {js : List Nat} (hN : c.N[j]? = some x) (hx : c.sc.names.lookup x = some .local ∨ c.sc.names.lookup x = some .cell) (r : Tgs c es js) : Tgs c (.Name x px :: es) (j :: js)

def gNames : List Nat → TGs
  | [] => gNil
  | j :: r => gCons (gName j) (gNames r)
theorem Tgs.pgs {X : Cx} (hX : InCx c X) (nd : c.N.Nodup) : ∀ {es : List Expr} {js : List Nat}, Tgs c es js → PGs X es (gNames js)
  | _, _, .nil => pgs_nil
  | _, _, .cons (px := px) hN hx r => pgs_cons (pg_name (pos := px) (by rw [hX.hN]; exact nd) (by rw [hX.hN]; exact hN) (hX.loc hx).1 (hX.loc hx).2) (r.pgs hX nd) rfl
theorem unp_sem {K : PySem.W.Frag} {S H : Hp} {Q : L2.St → Hp → Prop} : ∀ {ts : List PTr} {js : List Nat} {sl : List Sl} {σ : L2.St} {f : List Addr} {xs : List V}, Stt K B S H σ sl → TrPs K S H f xs ts → f.Nodup → (∀ a ∈ f, S a = none ∧ B.H0 a = none ∧ ¬ OwnAt σ sl a) → js.length = ts.length → (∀ j ∈ js, j < sl.length) →
    (∀ (fs : List (List Addr)) (σ' : L2.St), fs.length = ts.length → Stt K B S H σ' (putAll sl (js.zip (ts.zip fs))) → Q σ' H) → gNames js xs σ H Q
  | [], js, sl, σ, f, xs, I, tp, nd, n, hl, hj, q => by
    cases tp
    cases js with
    | nil => exact ⟨rfl, q [] σ rfl I⟩
    | cons j js => cases hl
  | t :: ts, js, sl, σ, f, xs, I, tp, nd, n, hl, hj, q => by
    cases js with
    | nil => cases hl
    | cons j js =>
      cases tp with
      | @cons v vs _ _ f1 f2 h1 h2 =>
        obtain ⟨d1, d2, d3⟩ := List.nodup_append.mp nd
        obtain ⟨ok, sub⟩ := slot_t (B := B) h1 d1 fun b m => ⟨(n b (by simp [m])).1, (n b (by simp [m])).2.1⟩
        have I1 := I.put (i := j) _ ok (fun b m => (n b (by simp [sub b m])).2.2) (by rw [List.getElem?_eq_getElem (hj j (by simp))]; rfl)
        refine ⟨v, vs, rfl, unp_sem I1 h2 d2 (fun a m => ⟨(n a (by simp [m])).1, (n a (by simp [m])).2.1, fun z => ?_⟩) (by simpa using hl) (fun j' m => by rw [List.length_set]; exact hj j' (by simp [m])) fun fs σ' hf I' => ?_⟩
        · rcases ownAt_set z with z | z
          · exact (n a (by simp [m])).2.2 z
          · exact d3 a (sub a z) a m rfl
        · exact q (f1 :: fs) σ' (by simp [hf]) I'
/-- names = a tree that is given up -/
theorem go_unp {t0 : PTr} {pt : Pos} {kt : Nat} (js : List Nat) (h : EVG c B e sl p t0 sl1) (hq : Seq2 t0 ts) (hT : Tgs c es js) (hjl : js.length = ts.length) (hj : ∀ j ∈ js, j < sl1.length) (h2 : ∀ fs : List (List Addr), fs.length = ts.length → GO c B rest (putAll sl1 (js.zip (ts.zip fs))) R) (nd : c.N.Nodup := by assumption)
    (hs : ∀ env, swapsWithSole [.Tuple es kt pt] e pos.line env = pure false := by intro _; rfl) (hw : ∀ env, swappedStores [.Tuple es kt pt] e env = pure none := by intro _; rfl) (ht : ∀ env, (assignEach [.Tuple es kt pt] env).map (·.2) = [assign (.Tuple es kt pt) env] := by intro _; rfl)
    (hn : ∀ env, (assignEach es env).length = ts.length := by intro _; rfl) (hst : ∀ env, (assignEach es env).findIdx? (·.1) = none := by intro _; rfl) : GO c B (.Assign [.Tuple es kt pt] e pos :: rest) sl R := by
  obtain ⟨r, ge, se⟩ := h
  have fin : ∀ {S H : Hp} {σ : L2.St} {D : Ends} {S1 H1 : Hp} {f : List Addr} {xs : List V}, EndOk c B S D R → Stt c.K B S1 H1 σ sl1 → Adv σ sl S H sl1 S1 H1 p → TrPs c.K S1 H1 f xs ts → f.Nodup → (∀ a ∈ f, S1 a = none ∧ B.H0 a = none ∧ ¬ OwnAt σ sl1 a) → gNames js xs σ H1 fun σ2 H2 => rB c rest D σ2 H2 := fun {S H σ D S1 H1 f xs} q I1 a1 tp nd1 n => by
    refine unp_sem I1 tp nd1 n hjl hj fun fs σ' hf I' => ?_
    exact (h2 fs hf).rr S1 H1 σ' I' D (q.up a1.s)
  cases hq with
  | tup =>
    refine ⟨tSeq (tAsg r (gTup c.K ts.length (gNames js))) (rB c rest), fun X hX => pss_cons (ps_asg (ge X hX) (by have := pg_tup (X := X) (k := kt) (pos := pt) hX.calm (hT.pgs hX nd) (hn _) (hst _); rw [hX.hK] at this; exact this) (hs _) (hw _) (ht _)) (ps_rB hX), fun S H σ I D q => ?_⟩
    refine se S H σ I _ fun v S1 H1 f I1 a1 tp nd1 n1 => ?_
    obtain ⟨l, xs, f0, rfl, rfl, e0, t0⟩ := trp_tup tp
    exact ⟨l, xs, rfl, .inl (.inl e0), t0.len, fin q I1 a1 t0 (List.nodup_cons.mp nd1).2 fun a m => ⟨(n1 a (by simp [m])).1, (n1 a (by simp [m])).2.1, (n1 a (by simp [m])).2.2.1⟩⟩
  | lst =>
    refine ⟨tSeq (tAsg r (gUnl c.K ts.length (gNames js))) (rB c rest), fun X hX => pss_cons (ps_asg (ge X hX) (by have := pg_unl (X := X) (k := kt) (pos := pt) hX.calm (hT.pgs hX nd) (hn _) (hst _); rw [hX.hK] at this; exact this) (hs _) (hw _) (ht _)) (ps_rB hX), fun S H σ I D q => ?_⟩
    refine se S H σ I _ fun v S1 H1 f I1 a1 tp nd1 n1 => ?_
    obtain ⟨l, xs, f0, rfl, rfl, e0, t0⟩ := trp_lst tp
    exact ⟨l, xs, rfl, .inl (.inl e0), t0.len, fin q I1 a1 t0 (List.nodup_cons.mp nd1).2 fun a m => ⟨(n1 a (by simp [m])).1, (n1 a (by simp [m])).2.1, (n1 a (by simp [m])).2.2.1⟩⟩
theorem go_unpG2 {t0 : PTr} {pt px py : Pos} {x y : Str} {kt : Nat} (j1 j2 : Nat) (h : EVG c B e sl p t0 sl1) (h2 : ∀ f1 f2, GO c B rest ((sl1.set j1 (t1.sl f1)).set j2 (t2.sl f2)) R) (hq : Seq2 t0 [t1, t2] := by first | exact .tup | exact .lst) (hN : c.N[j1]? = some x := by rfl) (hN2 : c.N[j2]? = some y := by rfl) (hj1 : j1 < sl1.length := by exact Nat.le_of_ble_eq_true rfl) (hj2 : j2 < sl1.length := by exact Nat.le_of_ble_eq_true rfl)
    (hx : c.sc.names.lookup x = some .local ∨ c.sc.names.lookup x = some .cell := by first | exact .inl rfl | exact .inr rfl) (hy : c.sc.names.lookup y = some .local ∨ c.sc.names.lookup y = some .cell := by first | exact .inl rfl | exact .inr rfl) (nd : c.N.Nodup := by assumption)
    (hs : ∀ env, swapsWithSole [.Tuple [.Name x px, .Name y py] kt pt] e pos.line env = pure false := by intro _; rfl) (hw : ∀ env, swappedStores [.Tuple [.Name x px, .Name y py] kt pt] e env = pure none := by intro _; rfl) (ht : ∀ env, (assignEach [.Tuple [.Name x px, .Name y py] kt pt] env).map (·.2) = [assign (.Tuple [.Name x px, .Name y py] kt pt) env] := by intro _; rfl)
    (hn : ∀ env, (assignEach [.Name x px, .Name y py] env).length = 2 := by intro _; rfl) (hst : ∀ env, (assignEach [.Name x px, .Name y py] env).findIdx? (·.1) = none := by intro _; rfl) : GO c B (.Assign [.Tuple [.Name x px, .Name y py] kt pt] e pos :: rest) sl R :=
  go_unp [j1, j2] h hq (.cons hN hx (.cons hN2 hy .nil)) rfl (fun j m => by
    rcases List.mem_cons.mp m with rfl | m
    · exact hj1
    · rw [List.mem_singleton.mp m]; exact hj2) (fun fs hf => match fs, hf with
    | [f1, f2], _ => h2 f1 f2) nd hs hw ht hn hst
theorem go_unpG3 {t0 : PTr} {pt px py pz : Pos} {x y z : Str} {kt : Nat} (j1 j2 j3 : Nat) (h : EVG c B e sl p t0 sl1) (h2 : ∀ f1 f2 f3, GO c B rest (((sl1.set j1 (t1.sl f1)).set j2 (t2.sl f2)).set j3 (t3.sl f3)) R) (hq : Seq2 t0 [t1, t2, t3] := by first | exact .tup | exact .lst) (hN : c.N[j1]? = some x := by rfl) (hN2 : c.N[j2]? = some y := by rfl) (hN3 : c.N[j3]? = some z := by rfl) (hj1 : j1 < sl1.length := by exact Nat.le_of_ble_eq_true rfl) (hj2 : j2 < sl1.length := by exact Nat.le_of_ble_eq_true rfl) (hj3 : j3 < sl1.length := by exact Nat.le_of_ble_eq_true rfl)
    (hx : c.sc.names.lookup x = some .local ∨ c.sc.names.lookup x = some .cell := by first | exact .inl rfl | exact .inr rfl) (hy : c.sc.names.lookup y = some .local ∨ c.sc.names.lookup y = some .cell := by first | exact .inl rfl | exact .inr rfl) (hz : c.sc.names.lookup z = some .local ∨ c.sc.names.lookup z = some .cell := by first | exact .inl rfl | exact .inr rfl) (nd : c.N.Nodup := by assumption)
    (hs : ∀ env, swapsWithSole [.Tuple [.Name x px, .Name y py, .Name z pz] kt pt] e pos.line env = pure false := by intro _; rfl) (hw : ∀ env, swappedStores [.Tuple [.Name x px, .Name y py, .Name z pz] kt pt] e env = pure none := by intro _; rfl) (ht : ∀ env, (assignEach [.Tuple [.Name x px, .Name y py, .Name z pz] kt pt] env).map (·.2) = [assign (.Tuple [.Name x px, .Name y py, .Name z pz] kt pt) env] := by intro _; rfl)
    (hn : ∀ env, (assignEach [.Name x px, .Name y py, .Name z pz] env).length = 3 := by intro _; rfl) (hst : ∀ env, (assignEach [.Name x px, .Name y py, .Name z pz] env).findIdx? (·.1) = none := by intro _; rfl) : GO c B (.Assign [.Tuple [.Name x px, .Name y py, .Name z pz] kt pt] e pos :: rest) sl R :=
  go_unp [j1, j2, j3] h hq (.cons hN hx (.cons hN2 hy (.cons hN3 hz .nil))) rfl (fun j m => by
    rcases List.mem_cons.mp m with rfl | m
    · exact hj1
    · rcases List.mem_cons.mp m with rfl | m
      · exact hj2
      · rw [List.mem_singleton.mp m]; exact hj3) (fun fs hf => match fs, hf with
    | [f1, f2, f3], _ => h2 f1 f2 f3) nd hs hw ht hn hst
end
end Mw

/-! NwZI: defs as values. -/
namespace Mw
open PySem PySem.Spec L2
variable [Tb]
/-- the def at f keeps sp -/
structure FnV (P : Program) (w : World) (K : PySem.W.Frag) (mg : Str → Option Value) (base : Heap) (lv : Nat) (f : Addr) (sp : Sp) : Prop where
  ex : ∃ fd ps, FnG P w K mg base lv f fd ps sp ∧ PySem.W.keepIn K (.ref f) = true ∧ Binds K fd ps []
section
variable {P : Program} {w : World} {K : PySem.W.Frag} {mg : Str → Option Value} {base : Heap} {lv lv' : Nat} {f : Addr} {sp sp' : Sp} {x : Str} {st : Stmt} {ps : List Str}
theorem DefOk.fnv (h : DefOk P w K mg base x st ps lv sp) : ∃ f, mg x = some (.ref f) ∧ FnV P w K mg base lv f sp := by
  obtain ⟨f, fd, hm, hF, hb, G⟩ := h.ex
  exact ⟨f, hm, fd, ps, G, hF.kp, hb⟩
theorem FnV.mono (h : FnV P w K mg base lv f sp) (hl : lv ≤ lv') : FnV P w K mg base lv' f sp := by
  obtain ⟨fd, ps, G, a, b⟩ := h.ex
  exact ⟨fd, ps, G.mono hl, a, b⟩
theorem FnV.imp (h : FnV P w K mg base lv f sp) (hi : ∀ vs H Q E, sp' vs H Q E → sp vs H Q E) : FnV P w K mg base lv f sp' := by
  obtain ⟨fd, ps, G, a, b⟩ := h.ex
  exact ⟨fd, ps, G.imp hi, a, b⟩
theorem prm_rel {R R' : Rel} (h : ∀ cs u cs', R' cs u cs' → R cs u cs') : ∀ vs H Q E, Prm K mg R' vs H Q E → Prm K mg R vs H Q E := fun vs H Q E ⟨S, ls, cs, u, cs', hr, r⟩ => ⟨S, ls, cs, u, cs', h _ _ _ hr, r⟩
/-- it ends so at these arguments -/
def EndAt (cs : List Sl) (u : Out) : Rel := fun cs1 u1 cs1' => cs1 = cs ∧ u1 = u ∧ cs1' = cs
theorem FnV.at {α : Type} {pre : α → Prop} {args : α → List Sl} {out : α → Out} (h : FnV P w K mg base lv f (Prm K mg (PureX pre args out))) (v : α) (hp : pre v) {cs : List Sl} {u : Out} (h1 : args v = cs := by rfl) (h2 : out v = u := by rfl) : FnV P w K mg base lv f (Prm K mg (EndAt cs u)) :=
  h.imp (prm_rel fun cs1 u1 cs1' ⟨e1, e2, e3⟩ => ⟨v, hp, by rw [e1, h1], by rw [e2, h2], by rw [e3, e1]⟩)
theorem tr_raw {H : Hp} {v : V} {a : Addr} (h : Tr K H v (rawD a)) : v = .ref a := by
  unfold rawD at h
  generalize e : (PyData.dict [(.none, .none), (.none, .int (a : Nat))]) = d at h
  cases h with
  | rw b =>
    have e := congrArg (fun d => match d with | PyData.dict [_, (_, .int i)] => i | _ => 0) e
    have e : ((a : Nat) : Int) = ((b : Nat) : Int) := e
    rw [show a = b from Int.ofNat.inj e]
  | dct h t =>
    cases t with
    | nil => cases e
    | @cons k v kvs d ds h t =>
      have e := congrArg (fun d => match d with | PyData.dict ((k, _) :: _) => k | _ => .none) e
      have e : PyData.none = keyD k := e
      cases k <;> cases e
  | exc0 h => cases e
  | exc1 h hx t => cases e
  | _ => cases e
variable {X : Cx} {W : WX} {p pos : Pos} {e : Expr} {es : List Expr} {t : TA} {fd : FuncData} {i : Nat}
theorem pe_callGV (F : FnG X.prog X.w X.K X.mg X.base lv f fd ps sp) (hr : Room lv X.A) (hgu : X.A.guards = some []) (tk : Takes X W) (hN : X.N[i]? = some x) (hv : Vis X.env.scope x) (hk : PySem.W.keepIn X.K (.ref f) = true) (hb : Binds X.K fd ps [])
    (ha : PA X (e :: es) t) (hdb : (x == ("__debug__" : Str)) = false) (hcd : (x == ("__classdict__" : Str)) = false) (he : starEach (e :: es) X.env = (false, eval e X.env) :: starEach es X.env) (hpl : (backTo pos (starEach es X.env)).any (·.1) = false) :
    PE X (.Call (.Name x p) (e :: es) [] pos) (fun σ H Q => σ[i]? = some (some (.ref f)) ∧ t σ H fun vs H1 => sp vs H1 Q fun cls d H' => W cls d σ H') :=
  ⟨fun pins s σ H Q I ⟨hs, h⟩ => by
    have nm := (pe_var (pos := p) hN hv hdb hcd).run pins s σ H (fun v H1 => v = .ref f ∧ H1 = H) I ⟨.ref f, hs, rfl, rfl⟩
    refine wpAny_Call_Name_kw (thn nm fun u s1 hu => ?_)
    obtain ⟨v, H1, I1, r1, rfl, rfl⟩ := hu
    cases r1
    refine PySem.W.callWith_K (h₀ := X.base) I1.ok.mod.kin hk (thn (ha.run pos pins s1 σ _ _ I1 h) fun us s2 hs2 => ?_) he hpl
    obtain ⟨vs, H2, I2, r, q⟩ := hs2
    have hl : (us ++ []).length = ps.length := by rw [List.append_nil, ← r.length]; exact F.len _ _ _ _ q
    have hb' := hb s2 us I2.kIn hl
    rw [List.append_nil] at hb'
    exact ⟨I2.kIn, wp_runG F hr hgu tk I2 hb' r q⟩⟩
end
section
variable {c : CxD} {B : Bs} {e : Expr} {es : List Expr} {sl sl1 : List Sl} {p : Bool} {ks : List Kd} {k : Kd} {pos p1 : Pos} {z : Exn} {x : Str} {f : Addr} {cs : List Sl} {R : Rel} {lv : Nat}
theorem ev_fnD (hm : c.mg x = some (.ref f)) (hg : c.sc.names.lookup x = some .globalImplicit := by rfl) (h1 : (x == ("__debug__" : Str)) = false := by decide) : EV c B (.Name x pos) sl true (.st (rawD f)) sl := by
  obtain ⟨t, g, s⟩ := ev_gref (B := B) (sl := sl) (pos := pos) hm hg h1
  refine ⟨t, g, fun S H σ I Q q => s S H σ I Q fun v S1 H1 I1 a1 x1 _ => q v S1 H1 I1 a1 ?_ trivial⟩
  have e : v = .ref f := x1
  rw [e]
  exact .rw f
theorem xv_callV (i : Nat) (F : FnV c.P c.w c.K c.mg c.base lv f (Prm c.K c.mg R)) (ha : AV c B (e :: es) sl p ks sl1) (hcs : ArgP ks cs) (hR : R cs (.exn z) cs) (hs0 : sl[i]? = some (.val (rawD f)) := by rfl) (hN : c.N[i]? = some x := by rfl) (hv : Vis c.sc x := by first | exact .inl rfl | exact .inr (.inl rfl) | exact .inr (.inr rfl)) (hlv : lv ≤ c.lv := by exact Nat.le_of_ble_eq_true rfl)
    (h1 : (x == ("__debug__" : Str)) = false := by decide) (h2 : (x == ("__classdict__" : Str)) = false := by decide) (he : ∀ env, starEach (e :: es) env = (false, eval e env) :: starEach es env := by intro env; rfl) (hpl : ∀ env, (backTo pos (starEach es env)).any (·.1) = false := by intro env; rfl) : XV c B (.Call (.Name x p1) (e :: es) [] pos) sl p z sl1 := by
  obtain ⟨fd, ps, G, hk, hb⟩ := F.ex
  obtain ⟨r, hr, hs⟩ := ha
  refine ⟨fun σ H Q => σ[i]? = some (some (.ref f)) ∧ r σ H fun vs H1 => Prm c.K c.mg R vs H1 Q fun cls d H' => c.W cls d σ H', fun X hX => pe_callGV (by rw [hX.hP, hX.hw, hX.hK, hX.hm, hX.hb]; exact G) (hX.rm.mono hlv) hX.gu hX.tk (by rw [hX.hN]; exact hN) (hX.v x hv) (by rw [hX.hK]; exact hk) (by rw [hX.hK]; exact hb) (hr X hX) h1 h2 (he _) (hpl _), fun S H σ I w Q => ⟨?_, ?_⟩⟩
  · obtain ⟨v, hv, tv⟩ := I.val hs0
    rw [hv, tr_raw tv]
  · refine hs S H σ I _ fun vs S1 H1 I1 a1 x1 => ⟨S1, [], cs, .exn z, cs, hR, hcs.stt I1 x1, fun cls dx S' H' J hv => ?_⟩
    obtain ⟨I2, a2⟩ := back0 I1 J
    exact w S' H' cls dx ((a1.trans a2).weak fun h => by rw [h]; rfl) I2 hv
theorem ev_callV (i : Nat) (F : FnV c.P c.w c.K c.mg c.base lv f (Prm c.K c.mg R)) (ha : AV c B (e :: es) sl p ks sl1) (hcs : ArgP ks cs) (hR : R cs (.ret k) cs) (hk0 : okK k = true := by rfl) (hs0 : sl[i]? = some (.val (rawD f)) := by rfl) (hN : c.N[i]? = some x := by rfl) (hv : Vis c.sc x := by first | exact .inl rfl | exact .inr (.inl rfl) | exact .inr (.inr rfl)) (hlv : lv ≤ c.lv := by exact Nat.le_of_ble_eq_true rfl)
    (h1 : (x == ("__debug__" : Str)) = false := by decide) (h2 : (x == ("__classdict__" : Str)) = false := by decide) (he : ∀ env, starEach (e :: es) env = (false, eval e env) :: starEach es env := by intro env; rfl) (hpl : ∀ env, (backTo pos (starEach es env)).any (·.1) = false := by intro env; rfl) : EV c B (.Call (.Name x p1) (e :: es) [] pos) sl p k sl1 := by
  obtain ⟨fd, ps, G, hk, hb⟩ := F.ex
  obtain ⟨r, hr, hs⟩ := ha
  refine ⟨fun σ H Q => σ[i]? = some (some (.ref f)) ∧ r σ H fun vs H1 => Prm c.K c.mg R vs H1 Q fun cls d H' => c.W cls d σ H', fun X hX => pe_callGV (by rw [hX.hP, hX.hw, hX.hK, hX.hm, hX.hb]; exact G) (hX.rm.mono hlv) hX.gu hX.tk (by rw [hX.hN]; exact hN) (hX.v x hv) (by rw [hX.hK]; exact hk) (by rw [hX.hK]; exact hb) (hr X hX) h1 h2 (he _) (hpl _), fun S H σ I Q fn => ⟨?_, ?_⟩⟩
  · obtain ⟨v, hv, tv⟩ := I.val hs0
    rw [hv, tr_raw tv]
  · refine hs S H σ I _ fun vs S1 H1 I1 a1 x1 => ⟨S1, [], cs, .ret k, cs, hR, hcs.stt I1 x1, fun v S' H' J hv => ?_⟩
    obtain ⟨I2, a2⟩ := back0 I1 J
    obtain ⟨kd, fr⟩ := kd_back I1 (okK_h hk0) (fun _ h => h) hv
    exact fn v S' H' I2 ((a1.trans a2).weak fun h => by rw [h]; rfl) kd (fr.back a1)
end
end Mw

/-! NwZJ: a, b, c = x, y, z with trees; comprehensions over numbers. -/
namespace Mw
open PySem PySem.Spec L2
variable [Tb]
section
variable {c : CxD} {B : Bs} {e a b d3 iter elt : Expr} {rest : List Stmt} {sl sl1 : List Sl} {p z : Bool} {pos px py pz pt p1 p2 p3 : Pos} {R : Rt} {t1 t2 t3 : PTr} {xs : List Int} {scope : Scope}
theorem go_parG3 (i j l : Nat) {x y z : Str} {kt k2' : Nat} {pt2 : Pos} (ha : AVG c B [a, b, d3] sl p [t1, t2, t3] sl1) (h2 : ∀ f1 f2 f3, GO c B rest (((sl1.set i (t1.sl f1)).set j (t2.sl f2)).set l (t3.sl f3)) R) (hi : i < sl1.length := by exact Nat.le_of_ble_eq_true rfl) (hj : j < sl1.length := by exact Nat.le_of_ble_eq_true rfl) (hl : l < sl1.length := by exact Nat.le_of_ble_eq_true rfl) (hij : i ≠ j := by decide) (hil : i ≠ l := by decide) (hjl : j ≠ l := by decide)
    (hN : c.N[i]? = some x := by rfl) (hN2 : c.N[j]? = some y := by rfl) (hN3 : c.N[l]? = some z := by rfl) (nd : c.N.Nodup := by assumption) (hx : c.sc.names.lookup x = some .local := by rfl) (hy : c.sc.names.lookup y = some .local := by rfl) (hz : c.sc.names.lookup z = some .local := by rfl) (hxy : (x == y) = false := by decide) (hxz : (x == z) = false := by decide) (hyz : (y == z) = false := by decide) (hln : (py.line == px.line) = true := by rfl) (hln2 : (pz.line == px.line) = true := by rfl)
    (has : ∀ v m, a ≠ .Starred v m := by intro _ _ h; cases h) (hbs : ∀ v m, b ≠ .Starred v m := by intro _ _ h; cases h) (hds : ∀ v m, d3 ≠ .Starred v m := by intro _ _ h; cases h) (hf1 : [a, b, d3].all (foldedForSure 8) = false := by rfl) (hf2 : [a, b, d3].all (constantsAlone 8) = false := by rfl)
    (hsw : ∀ env, swapsWithSole [.Tuple [.Name x px, .Name y py, .Name z pz] kt pt] (.Tuple [a, b, d3] k2' pt2) pos.line env = pure false := by intro _; rfl) :
    GO c B (.Assign [.Tuple [.Name x px, .Name y py, .Name z pz] kt pt] (.Tuple [a, b, d3] k2' pt2) pos :: rest) sl R := by
  obtain ⟨ta, ga, sa⟩ := ha
  refine go_cons (M := fun s => ∃ f1 f2 f3, s = ((sl1.set i (t1.sl f1)).set j (t2.sl f2)).set l (t3.sl f3)) ⟨tPar3 i j l ta, fun X hX => ps_par3 hX.calm (by rw [hX.hN]; exact nd) (by rw [hX.hN]; exact hN) (by rw [hX.hN]; exact hN2) (by rw [hX.hN]; exact hN3) hij hil hjl (hX.l x hx) (hX.l y hy) (hX.l z hz) (ga X hX) (sw3 hX.kind (hX.l x hx) (hX.l y hy) (hX.l z hz) hxy hxz hyz hln hln2 has hbs hds hf1 hf2) (hsw _), fun S H σ I D q => ?_⟩ (by rintro s ⟨f1, f2, f3, rfl⟩; exact h2 f1 f2 f3)
  refine sa S H σ I _ fun vs S1 H1 fp I1 a1 tp nd1 n => ?_
  have := unp_sem (Q := fun σ' H' => D.nx σ' H') (js := [i, j, l]) I1 tp nd1 (fun a m => ⟨(n a m).1, (n a m).2.1, (n a m).2.2.1⟩) rfl (by
    intro m hm
    simp only [List.mem_cons, List.not_mem_nil, or_false] at hm
    rcases hm with rfl | rfl | rfl <;> assumption) (fun fs σ' hf I' => by
      match fs, hf with
      | [f1, f2, f3], _ => exact q.nx S1 H1 σ' _ a1.s I' ⟨f1, f2, f3, rfl⟩)
  obtain ⟨u, r1, e1, v, r2, e2, w, r3, e3, e4, h⟩ := this
  subst e1 e2 e3 e4
  exact ⟨u, v, w, rfl, h⟩
theorem go_parG2 (i j : Nat) {x y : Str} {kt k2' : Nat} {pt2 : Pos} (ha : AVG c B [a, b] sl p [t1, t2] sl1) (h2 : ∀ f1 f2, GO c B rest ((sl1.set i (t1.sl f1)).set j (t2.sl f2)) R) (hi : i < sl1.length := by exact Nat.le_of_ble_eq_true rfl) (hj : j < sl1.length := by exact Nat.le_of_ble_eq_true rfl) (hij : i ≠ j := by decide)
    (hN : c.N[i]? = some x := by rfl) (hN2 : c.N[j]? = some y := by rfl) (nd : c.N.Nodup := by assumption) (hx : c.sc.names.lookup x = some .local := by rfl) (hy : c.sc.names.lookup y = some .local := by rfl) (hxy : (x == y) = false := by decide) (hln : (py.line == px.line) = true := by rfl)
    (has : ∀ v m, a ≠ .Starred v m := by intro _ _ h; cases h) (hbs : ∀ v m, b ≠ .Starred v m := by intro _ _ h; cases h) (hf1 : [a, b].all (foldedForSure 8) = false := by rfl) (hf2 : [a, b].all (constantsAlone 8) = false := by rfl)
    (hsw : ∀ env, swapsWithSole [.Tuple [.Name x px, .Name y py] kt pt] (.Tuple [a, b] k2' pt2) pos.line env = pure false := by intro _; rfl) :
    GO c B (.Assign [.Tuple [.Name x px, .Name y py] kt pt] (.Tuple [a, b] k2' pt2) pos :: rest) sl R := by
  obtain ⟨ta, ga, sa⟩ := ha
  refine go_cons (M := fun s => ∃ f1 f2, s = (sl1.set i (t1.sl f1)).set j (t2.sl f2)) ⟨tPar i j ta, fun X hX => ps_par hX.calm (by rw [hX.hN]; exact nd) (by rw [hX.hN]; exact hN) (by rw [hX.hN]; exact hN2) hij (hX.l x hx) (hX.l y hy) (ga X hX) (sw2 hX.kind (hX.l x hx) (hX.l y hy) hxy hln has hbs hf1 hf2) (hsw _), fun S H σ I D q => ?_⟩ (by rintro s ⟨f1, f2, rfl⟩; exact h2 f1 f2)
  refine sa S H σ I _ fun vs S1 H1 fp I1 a1 tp nd1 n => ?_
  have := unp_sem (Q := fun σ' H' => D.nx σ' H') (js := [i, j]) I1 tp nd1 (fun a m => ⟨(n a m).1, (n a m).2.1, (n a m).2.2.1⟩) rfl (by
    intro m hm
    simp only [List.mem_cons, List.not_mem_nil, or_false] at hm
    rcases hm with rfl | rfl <;> assumption) (fun fs σ' hf I' => by
      match fs, hf with
      | [f1, f2], _ => exact q.nx S1 H1 σ' _ a1.s I' ⟨f1, f2, rfl⟩)
  obtain ⟨u, r1, e1, v, r2, e2, e4, h⟩ := this
  subst e1 e2 e4
  exact ⟨u, v, rfl, h⟩
/-- [f(x) for x in xs] -/
theorem evN_map {nm : Str} {tp : Pos} (j : Nat) (g : Int → Int) (hi : EI c B (.Name nm tp) iter sl p (nums xs) z sl1)
    (hs : ∀ (i : Nat) (x : Int), xs[i]? = some x → EV (c.blk scope) B elt ((sl1.set j .no).set j (.val (.int x))) true (.st (.int (g x))) ((sl1.set j .no).set j (.val (.int x))))
    (hl : xs.length ≤ 1000000) (hg : GT (c.blk scope) B (.Name nm tp) (.none) [j] (sl1.set j .no) ((sl1.set j .no).set j (.val .none)) := by exact gt_name _) (hg2 : ∀ d, GT (c.blk scope) B (.Name nm tp) d [j] (sl1.set j .no) ((sl1.set j .no).set j (.val d)) := by intro d; exact gt_name _)
    (ok : blkC c.N c.sc scope [(nm, j)] = true := by (try dsimp only [CxD.blk]); decide +kernel) (nd : c.N.Nodup := by assumption) (hf : ∀ env x, foldedSetIterable iter env x = pure x := by intro _ _; rfl) : EV c B (.ListComp elt [⟨.Name nm tp, iter, [], 0⟩] scope pos) sl p (.fr (.lst (nums (xs.map g)))) sl1 :=
  (evN_comp j (fun x => some (g x)) hi (fun i x hx => ⟨true, tvs_nil, fun _ => ⟨_, rfl, hs i x hx⟩, fun h => nomatch h⟩) hl hg hg2 ok nd hf).to (by rw [show xs.filterMap (fun x => some (g x)) = xs.map g from by rw [← List.filterMap_eq_map]; rfl])
/-- name = [f(x) for x in xs] -/
theorem go_setMN {nm y : Str} {tp : Pos} (i j : Nat) (g : Int → Int) (hi : EI c B (.Name nm tp) iter sl p (nums xs) z sl1)
    (hs : ∀ (i : Nat) (x : Int), xs[i]? = some x → EV (c.blk scope) B elt ((sl1.set j .no).set j (.val (.int x))) true (.st (.int (g x))) ((sl1.set j .no).set j (.val (.int x))))
    (hl : xs.length ≤ 1000000) (h2 : GO c B rest (sl1.set i (.own (.lst (nums (xs.map g))))) R) (hg2 : ∀ d, GT (c.blk scope) B (.Name nm tp) d [j] (sl1.set j .no) ((sl1.set j .no).set j (.val d)) := by intro d; exact gt_name _)
    (ok : blkC c.N c.sc scope [(nm, j)] = true := by (try dsimp only [CxD.blk]); decide +kernel) (hii : (sl1[i]?).isSome = true := by rfl) (hN : c.N[i]? = some y := by rfl) (nd : c.N.Nodup := by assumption) (hx : c.sc.names.lookup y = some .local := by rfl) (hk : (scope.names.any fun (n, k) => n == y && (k == .local || k == .cell)) = false := by decide +kernel) (hln : (p1.line == pos.line) = true := by rfl)
    (hf : ∀ env x, foldedSetIterable iter env x = pure x := by intro _ _; rfl) : GO c B (.Assign [.Name y p1] (.ListComp elt [⟨.Name nm tp, iter, [], 0⟩] scope pos) p2 :: rest) sl R :=
  go_setCN i j (fun x => some (g x)) hi (fun i x hx => ⟨true, tvs_nil, fun _ => ⟨_, rfl, hs i x hx⟩, fun h => nomatch h⟩) hl (by rw [show xs.filterMap (fun x => some (g x)) = xs.map g from by rw [← List.filterMap_eq_map]; rfl]; exact h2) hg2 ok hii hN nd hx hk hln hf
/-- name = [x for x in xs if t] -/
theorem go_setFN {nm y : Str} {tp : Pos} {test : Expr} (i j : Nat) (g : Int → Bool) (hi : EI c B (.Name nm tp) iter sl p (nums xs) z sl1)
    (hs : ∀ (i : Nat) (x : Int), xs[i]? = some x → TV (c.blk scope) B test ((sl1.set j .no).set j (.val (.int x))) true (g x) ((sl1.set j .no).set j (.val (.int x))))
    (hl : xs.length ≤ 1000000) (h2 : GO c B rest (sl1.set i (.own (.lst (nums (xs.filter g))))) R) (hj : (sl1[j]?).isSome = true := by rfl) (hNj : c.N[j]? = some nm := by rfl) (hv : Vis scope nm := by first | exact .inl rfl | exact .inr (.inl rfl) | exact .inr (.inr rfl)) (h1 : (nm == ("__debug__" : Str)) = false := by decide) (hcd : (nm == ("__classdict__" : Str)) = false := by decide) (hg2 : ∀ d, GT (c.blk scope) B (.Name nm tp) d [j] (sl1.set j .no) ((sl1.set j .no).set j (.val d)) := by intro d; exact gt_name _)
    (ok : blkC c.N c.sc scope [(nm, j)] = true := by (try dsimp only [CxD.blk]); decide +kernel) (hii : (sl1[i]?).isSome = true := by rfl) (hN : c.N[i]? = some y := by rfl) (nd : c.N.Nodup := by assumption) (hx : c.sc.names.lookup y = some .local := by rfl) (hk : (scope.names.any fun (n, k) => n == y && (k == .local || k == .cell)) = false := by decide +kernel) (hln : (p1.line == pos.line) = true := by rfl)
    (hf : ∀ env x, foldedSetIterable iter env x = pure x := by intro _ _; rfl) : GO c B (.Assign [.Name y p1] (.ListComp (.Name nm p3) [⟨.Name nm tp, iter, [test], 0⟩] scope pos) p2 :: rest) sl R :=
  go_setCN i j (fun x => if g x = true then some x else none) hi (fun i x hx => ⟨g x, tvs_one (hs i x hx), fun h => ⟨x, by rw [if_pos h], ev_val j (by
    rw [List.getElem?_set_self]
    rw [List.length_set]
    cases e : sl1[j]? with
    | none => rw [e] at hj; cases hj
    | some u => exact (List.getElem?_eq_some_iff.mp e).1) hNj hv h1 hcd⟩, fun h => by rw [if_neg (by rw [h]; decide)]⟩) hl (by rw [fm_filter]; exact h2) hg2 ok hii hN nd hx hk hln hf
end
end Mw

/-! NwZK: repr of data with dicts in it. -/
namespace Mw
open PySem PySem.Spec L2 PyProof.Rows
variable [Tb]
def nnK : PyData → Bool
  | .none => false
  | _ => true
mutual
/-- no thing by its address, no exception, at any depth -/
def noRaw : PyData → Bool
  | .none | .bool _ | .int _ | .str _ => true
  | .list xs | .tuple xs => noRawL xs
  | .dict kvs => noRawK kvs
def noRawL : List PyData → Bool
  | [] => true
  | x :: xs => noRaw x && noRawL xs
def noRawK : List (PyData × PyData) → Bool
  | [] => true
  | (k, v) :: r => nnK k && noRaw v && noRawK r
end
theorem noRawK_nn : ∀ {ds : List (PyData × PyData)}, noRawK ds = true → ∀ x ∈ ds, x.1 ≠ .none
  | [], _, x, hx, _ => nomatch hx
  | (k, v) :: r, h, x, hx, e => by
    have h : (nnK k && noRaw v && noRawK r) = true := h
    simp only [Bool.and_eq_true] at h
    rcases List.mem_cons.mp hx with rfl | hx
    · have e : k = .none := e
      rw [e] at h
      cases h.1.1
    · exact noRawK_nn h.2 x hx e
section
variable {X : Cx} {pins : List (Addr × Obj)} {σ : L2.St} {H : Hp} {s : Shared}
mutual
theorem Tr.readsD (I : Inv X pins σ H s) (hm : ∃ o es ep, s.heap.get? sysModules = some o ∧ o.data = .dict es ep) : ∀ {d : PyData} {v : V} {u : Value}, Tr X.K H v d → noRaw d = true → RelV v u → ∃ as, Reads s.heap u d as ∧ sysModules ∉ as
  | .none, _, _, h, _, r => by cases h; cases r; exact ⟨_, .none, by simp⟩
  | .bool b, _, _, h, _, r => by cases h; cases r; exact ⟨_, .bool b, by simp⟩
  | .int i, _, _, h, _, r => by cases h; obtain ⟨t, rfl⟩ := r; exact ⟨_, .int i t, by simp⟩
  | .str x, _, _, h, _, r => by cases h; obtain ⟨t, rfl⟩ := r; exact ⟨_, .str x t, by simp⟩
  | .list ds, _, _, h, hd, r => by
    cases h with
    | @lst a xs _ hs ha =>
      cases r
      obtain ⟨its, rv, ⟨o, n, ho, hc, _, hdt⟩, _⟩ := I.list hs
      obtain ⟨as, hr, hn⟩ := Trs.readsD I hm ha hd rv
      refine ⟨_, .list ho hc hdt hr, fun z => ?_⟩
      rcases List.mem_cons.mp z with z | z
      · obtain ⟨o2, es, ep, e1, e2⟩ := hm
        rw [z, ho] at e1
        cases e1
        rw [hdt] at e2
        cases e2
      · exact hn z
  | .tuple ds, _, _, h, hd, r => by
    cases h with
    | tup hs ha =>
      cases r
      obtain ⟨its, rv, ⟨o, ho, hc, n, hdt⟩, _⟩ := I.tuple hs
      obtain ⟨as, hr, hn⟩ := Trs.readsD I hm ha hd rv
      exact ⟨_, .tuple ho hc hdt hr, hn⟩
  | .dict ds, _, _, h, hd, r => by
    obtain ⟨a, kvs, rfl, hr, tk⟩ := tr_dct h (noRawK_nn hd)
    cases r
    obtain ⟨_, hne, vs, rel, o, es, ep, ho, hx, hdt, _, hp, _⟩ := dk_rd I.hok hr
    obtain ⟨as, bs, q1, q2, q3, q4⟩ := Trk.readsD I hm tk hd rel hp
    refine ⟨_, .dict ho hx.1 hdt q1 q2, fun z => ?_⟩
    rcases List.mem_append.mp z with z | z
    · rcases List.mem_cons.mp z with z | z
      · rw [z] at hne; simp at hne
      · exact q3 z
    · exact q4 z
theorem Trs.readsD (I : Inv X pins σ H s) (hm : ∃ o es ep, s.heap.get? sysModules = some o ∧ o.data = .dict es ep) : ∀ {ds : List PyData} {vs : List V} {us : List Value}, Trs X.K H vs ds → noRawL ds = true → Vals vs us → ∃ as, ReadsAll s.heap us ds as ∧ sysModules ∉ as
  | [], _, _, h, _, r => by cases h; cases r; exact ⟨_, .nil, by simp⟩
  | d :: ds, _, _, h, hd, r => by
    cases h with
    | cons h1 h2 =>
      cases r with
      | cons r1 r2 =>
        have hd2 : (noRaw d && noRawL ds) = true := hd
        obtain ⟨hd1, hd2⟩ := Bool.and_eq_true_iff.mp hd2
        obtain ⟨as, q1, n1⟩ := Tr.readsD I hm h1 hd1 r1
        obtain ⟨bs, q2, n2⟩ := Trs.readsD I hm h2 hd2 r2
        exact ⟨_, .cons q1 q2, by simp [n1, n2]⟩
theorem Trk.readsD (I : Inv X pins σ H s) (hm : ∃ o es ep, s.heap.get? sysModules = some o ∧ o.data = .dict es ep) : ∀ {ds : List (PyData × PyData)} {kvs : List (Key × V)} {vs : List (Key × Value)} {es : List DictEntry}, Trk X.K H kvs ds → noRawK ds = true → L2.KV kvs vs → Pairs (mixKind X.prog X.w) es vs →
    ∃ as bs, ReadsAll s.heap (es.map (·.key)) (ds.map (·.1)) as ∧ ReadsAll s.heap (es.map (·.val)) (ds.map (·.2)) bs ∧ sysModules ∉ as ∧ sysModules ∉ bs
  | [], _, _, _, h, _, r, p => by cases h; cases r; cases p; exact ⟨_, _, .nil, .nil, by simp, by simp⟩
  | (k0, d) :: ds, _, _, _, h, hd, r, p => by
    cases h with
    | @cons k v _ _ _ h1 h2 =>
      cases r with
      | @cons _ b _ _ r1 r2 =>
        obtain ⟨e1, rv⟩ := r1
        cases p with
        | @cons e _ _ _ p1 p2 p3 =>
          have hd2 : (nnK (keyD k) && noRaw d && noRawK ds) = true := hd
          simp only [Bool.and_eq_true] at hd2
          obtain ⟨as, q1, n1⟩ := Tr.readsD I hm h1 hd2.1.2 rv
          obtain ⟨cs, bs, q2, q3, n2, n3⟩ := Trk.readsD I hm h2 hd2.2 r2 p3
          have e1 : k = b.1 := e1
          have p1 : keyIs b.1 e.key = true := p1
          obtain ⟨ks, hk, nk⟩ : ∃ ks, Reads s.heap e.key (keyD k) ks ∧ sysModules ∉ ks := by
            rw [e1]
            rcases keyIs_shape p1 with ⟨i, t, e2, e3⟩ | ⟨x, t, e2, e3⟩
            · rw [e2, e3]; exact ⟨_, .int i t, by simp⟩
            · rw [e2, e3]; exact ⟨_, .str x t, by simp⟩
          have p2 : e.val = b.2 := p2
          exact ⟨ks ++ cs, as ++ bs, .cons hk q2, .cons (show Reads s.heap e.val d as by rw [p2]; exact q1) q3, by simp [nk, n2], by simp [n1, n3]⟩
end
end
/-- what repr is asked of -/
structure Rw (b n : Nat) (d : PyData) : Prop where
  sh : d.showable = true
  nr : noRaw d = true
  dp : d.depth ≤ b
  sz : d.shown.length ≤ n
mutual
theorem noRaw_of : ∀ d : PyData, d.hasDict = false → noRaw d = true
  | .none, _ => rfl
  | .bool _, _ => rfl
  | .int _, _ => rfl
  | .str _, _ => rfl
  | .list xs, h => noRawL_of xs (by simpa [PyData.hasDict] using h)
  | .tuple xs, h => noRawL_of xs (by simpa [PyData.hasDict] using h)
  | .dict _, h => by simp [PyData.hasDict] at h
theorem noRawL_of : ∀ ds : List PyData, PyData.hasDictAll ds = false → noRawL ds = true
  | [], _ => rfl
  | d :: r, h => by
    have h2 : d.hasDict = false ∧ PyData.hasDictAll r = false := by simpa [PyData.hasDictAll] using h
    show (noRaw d && noRawL r) = true
    rw [noRaw_of d h2.1, noRawL_of r h2.2]; rfl
end
theorem Rk.w {b n : Nat} {d : PyData} (h : Rk b n d) : Rw b n d := ⟨h.sh, noRaw_of d h.nd, h.dp, h.sz⟩
theorem Rw.mono {b n b' n' : Nat} {d : PyData} (h : Rw b n d) (hb : b ≤ b') (hn : n ≤ n') : Rw b' n' d := ⟨h.sh, h.nr, Nat.le_trans h.dp hb, Nat.le_trans h.sz hn⟩
theorem all_rw {b n : Nat} : ∀ {ds : List PyData}, (∀ d ∈ ds, Rw b n d) → PyData.showableAll ds = true ∧ noRawL ds = true ∧ PyData.depthAll ds ≤ b ∧ ∀ t ∈ PyData.shownAll ds, t.length ≤ n
  | [], _ => ⟨rfl, rfl, Nat.zero_le _, fun _ h => nomatch h⟩
  | d :: r, h => by
    obtain ⟨a1, a2, a3, a4⟩ := all_rw fun x hx => h x (List.mem_cons_of_mem _ hx)
    have hd := h d List.mem_cons_self
    refine ⟨?_, ?_, ?_, fun t ht => ?_⟩
    · show (d.showable && PyData.showableAll r) = true
      rw [hd.sh, a1]; rfl
    · show (noRaw d && noRawL r) = true
      rw [hd.nr, a2]; rfl
    · show max d.depth (PyData.depthAll r) ≤ b
      exact Nat.max_le.mpr ⟨hd.dp, a3⟩
    · rcases List.mem_cons.mp (show t ∈ d.shown :: PyData.shownAll r from ht) with rfl | ht
      · exact hd.sz
      · exact a4 t ht
theorem Rw.listN {b n m : Nat} {ds : List PyData} (h : ∀ d ∈ ds, Rw b n d) (hm : ds.length ≤ m) : Rw (b + 1) (m * (n + 2) + 3) (.list ds) := by
  obtain ⟨a1, a2, a3, a4⟩ := all_rw h
  refine ⟨a1, a2, Nat.succ_le_succ a3, ?_⟩
  have h1 := piled_le _ a4
  have h2 := listText_le (PyData.shownAll ds)
  rw [shownAll_len] at h1
  have h3 := Nat.mul_le_mul_right (n + 2) hm
  show (listText (PyData.shownAll ds)).length ≤ _
  omega
theorem Rw.tupleN {b n m : Nat} {ds : List PyData} (h : ∀ d ∈ ds, Rw b n d) (hm : ds.length ≤ m) : Rw (b + 1) (m * (n + 2) + 3) (.tuple ds) := by
  obtain ⟨a1, a2, a3, a4⟩ := all_rw h
  refine ⟨a1, a2, Nat.succ_le_succ a3, ?_⟩
  have h1 := piled_le _ a4
  have h2 := tupleText_le (PyData.shownAll ds)
  rw [shownAll_len] at h1
  have h3 := Nat.mul_le_mul_right (n + 2) hm
  show (tupleText (PyData.shownAll ds)).length ≤ _
  omega
theorem Rw.dict0 : Rw 1 2 (.dict []) := ⟨rfl, rfl, by decide, by decide +kernel⟩
section
variable {c : CxD} {B : Bs} {e : Expr} {sl sl1 : List Sl} {p : Bool} {k : Kd} {pos p1 : Pos} {d : PyData}
theorem ev_reprD {n : Nat} (ha : EV c B e sl p k sl1) (hm : c.mg "repr" = none) (hd : Rw 50 n d) (hk1 : AsD k d := by first | exact .st | exact .ls | exact .fr | exact .nw) (hn : n ≤ 16777216 := by omega) (hg : c.sc.names.lookup ("repr" : Str) = some .globalImplicit := by rfl) (he : ∀ env, starEach [e] env = (false, eval e env) :: starEach [] env := by intro env; rfl) :
    EV c B (.Call (.Name "repr" p1) [e] [] pos) sl p (.st (.str d.shown)) sl1 := by
  have hsz : d.shown.length ≤ sizeLine := by rw [sizeLine_eq]; exact Nat.le_trans hd.sz hn
  refine ev_call1B (k1 := k) (id := "repr") (r := fun vs H Q => ∃ v, vs = [v] ∧ (∃ φ, H sysModules = some (.ext φ) ∧ IsSm φ) ∧ Tr c.K H v d ∧ Q (.str d.shown) H) (fun X hX => ?_) (fun B σ sl S H v I hk Q q => ⟨v, rfl, I.smH, hk1.tr I hk, q.st I (.str _)⟩) ha hm (by decide +kernel) hg he
  intro pins s σ H vs us Q I r h
  obtain ⟨v, rfl, ⟨φ, hφ, hs⟩, t, q⟩ := h
  rw [← hX.hK] at t
  obtain ⟨u, rfl, ru⟩ : ∃ u, us = [u] ∧ RelV v u := by
    cases r with
    | cons r1 r2 => cases r2; exact ⟨_, rfl, r1⟩
  have hmod := hs _ (I.hok _ _ hφ).1
  obtain ⟨as, rd, nas⟩ := Tr.readsD I hmod t hd.nr ru
  have fin : ∀ tk tk', EP X pins σ Q (.str d.shown tk) { s with toks := tk' } := fun tk tk' => ⟨.str d.shown, H, I.tok _, ⟨_, rfl⟩, q⟩
  have ref : ∀ a, u = Value.ref a → wpAny (model X.prog X.w) X.A (call (.builtin "repr") [u]) (EP X pins σ Q) X.xe s := fun a ea => by
    subst ea
    refine repr_of_reads' rd hd.sh (fun _ => nas) hX.gu ?_ (fun _ _ h => h) (fun h' u tk hk => ?_) hsz
    · have := hX.rm.units
      have := hd.dp
      omega
    · exact ⟨.str d.shown, H, I.kept hk, ⟨_, rfl⟩, q⟩
  cases rd with
  | none => exact PySem.P.repr_of_none (fin _ _)
  | bool b => exact PySem.P.repr_of_bool (fin _ _)
  | int i t => exact PySem.P.repr_of_int (of_decide_eq_true hd.sh) (fin _ _)
  | str x t =>
    exact PySem.P.repr_of_str (fin _ _) hsz
  | list h1 h2 h3 h4 => exact ref _ rfl
  | tuple h1 h2 h3 h4 => exact ref _ rfl
  | dict h1 h2 h3 h4 h5 => exact ref _ rfl
end
end Mw

namespace Mw
open PySem PySem.Spec L2
variable [Tb]
def top (i : Nat) : Stmt := PySem.Challenge.pw_midwalk_k50_doublet_passes.main.body.getD i (.Pass ⟨0, 0, 0, 0⟩)
structure Free (K : PySem.W.Frag) (mg : Str → Option Value) : Prop where
  «ValueError» : mg "ValueError" = none
  «bool» : mg "bool" = none
  «enumerate» : mg "enumerate" = none
  «int» : mg "int" = none
  «isinstance» : mg "isinstance" = none
  «len» : mg "len" = none
  «list» : mg "list" = none
  «range» : mg "range" = none
  «repr» : mg "repr" = none
  «set» : mg "set" = none
  «tuple» : mg "tuple" = none
  MOST_VALUES : ∃ t, mg "MOST_VALUES" = some (.int 120 t)
  cl : ∃ C_InvalidValues : Addr, Cls K mg "InvalidValues" "index" C_InvalidValues
theorem Free.c_InvalidValues {K : PySem.W.Frag} {mg : Str → Option Value} (T : Free K mg) : ∃ C : Addr, Cls K mg "InvalidValues" "index" C := by
  obtain ⟨C_InvalidValues, h⟩ := T.cl
  exact ⟨_, h⟩
structure At (K : PySem.W.Frag) (mg : Str → Option Value) (x : Str) (st : Stmt) (ps : List Str) : Prop where
  ex : ∃ f fd, mg x = some (.ref f) ∧ Fun K x x st f fd ∧ Binds K fd ps []
structure AtL (K : PySem.W.Frag) (mg : Str → Option Value) (base : Heap) (x : Str) (st : Stmt) (ps : List Str) : Prop where
  ex : ∃ f fd, mg x = some (.ref f) ∧ Fun K x x st f fd ∧ Binds K fd ps [] ∧ TabOf base mg fd.code (x ++ ".<locals>.")
structure AtD (K : PySem.W.Frag) (mg : Str → Option Value) (x : Str) (st : Stmt) (ps : List Str) (dvs : List V) : Prop where
  ex : ∃ f fd, mg x = some (.ref f) ∧ Fun K x x st f fd ∧ ∃ ds, Vals dvs ds ∧ Binds K fd ps ds
/-- a whole number -/
def wholeD : PyData → Bool
  | .int _ => true
  | _ => false
def pln2 (d : PyData) : Bool := plnD d && match d with | .list ds => ds.all plnD | _ => true
def pln3 (d : PyData) : Bool := plnD d && match d with | .list ds => ds.all pln2 | _ => true
theorem pln2_l {ds : List PyData} (h : pln2 (.list ds) = true) : ∀ d ∈ ds, plnD d = true := fun d hd => List.all_eq_true.mp (show ds.all plnD = true from h) d hd
theorem pln3_l {ds : List PyData} (h : pln3 (.list ds) = true) : ∀ d ∈ ds, pln2 d = true := fun d hd => List.all_eq_true.mp (show ds.all pln2 = true from h) d hd
theorem pln2_1 {d : PyData} (h : pln2 d = true) : plnD d = true := (Bool.and_eq_true_iff.mp h).1
theorem pln3_1 {d : PyData} (h : pln3 d = true) : plnD d = true := (Bool.and_eq_true_iff.mp h).1
theorem pln_nums (xs : List Int) : (nums xs).all plnD = true := List.all_eq_true.mpr fun d hd => by obtain ⟨v, _, rfl⟩ := nums_mem hd; rfl
def outN : Option Exn → Out
  | some x => .exn x
  | none => .ret (.st .none)
def optD : Option Nat → PyData
  | some i => .int (i : Nat)
  | none => .none
def badV : List PyData → Nat → Option Nat
  | [], _ => none
  | d :: r, i => if wholeD d = true then badV r (i + 1) else some i
theorem badV_nums : ∀ (xs : List Int) (r : List PyData) (i : Nat), badV (nums xs ++ r) i = badV r (i + xs.length)
  | [], r, i => rfl
  | x :: xs, r, i => by
    have := badV_nums xs r (i + 1)
    show (if wholeD (.int x) = true then badV (nums xs ++ r) (i + 1) else some i) = _
    rw [if_pos (show wholeD (.int x) = true from rfl), this, List.length_cons, show i + 1 + xs.length = i + (xs.length + 1) by omega]
theorem badV_none {ds : List PyData} : ∀ {i : Nat}, badV ds i = none → ∃ xs, ds = nums xs := by
  induction ds with
  | nil => exact fun _ => ⟨[], rfl⟩
  | cons d r ih =>
    intro i h
    unfold badV at h
    split at h
    · rename_i hw
      obtain ⟨xs, rfl⟩ := ih h
      cases d with
      | int v => exact ⟨v :: xs, rfl⟩
      | _ => cases hw
    · cases h
def xV (d : PyData) : Exn := ⟨"InvalidValues", some ("index", d)⟩
def refV : PyData → Option Exn
  | .list ds => if 120 < ds.length then some (xV .none) else (badV ds 0).map fun i => xV (.int (i : Nat))
  | _ => some (xV .none)
theorem refV_l (ds : List PyData) : refV (.list ds) = if 120 < ds.length then some (xV .none) else (badV ds 0).map fun i => xV (.int (i : Nat)) := rfl
theorem refV_nums {xs : List Int} (h : xs.length ≤ 120) : refV (.list (nums xs)) = none := by
  have := badV_nums xs [] 0
  rw [List.append_nil] at this
  rw [refV_l, if_neg (by rw [len_nums]; omega), this]; rfl
theorem numbered_inv {ds : List PyData} {i : Nat} {d : PyData} (h : (numbered ds)[i]? = some d) : ∃ e, ds[i]? = some e ∧ d = .tuple [.int (i : Nat), e] := by
  have hi : i < ds.length := by have := (List.getElem?_eq_some_iff.mp h).1; rwa [numbered_len] at this
  have := numbered_get (List.getElem?_eq_getElem hi)
  rw [this] at h
  exact ⟨_, List.getElem?_eq_getElem hi, (Option.some.inj h).symm⟩
theorem drop_cons_of {α : Type} {ds : List α} {i : Nat} {d : α} (h : ds[i]? = some d) : ds.drop i = d :: ds.drop (i + 1) := by
  obtain ⟨hi, e⟩ := List.getElem?_eq_some_iff.mp h
  rw [List.drop_eq_getElem_cons hi, e]
abbrev s_is_whole : Stmt := top 4
theorem sc_is_whole : FnScope ["thing"] ["thing"] (defScope s_is_whole) := ⟨rfl, rfl, rfl, by decide +kernel, rfl, by decide +kernel, by decide +kernel⟩
def sp_is_whole : Rel := Pure (α := PyData) (fun a => plnD a = true) (fun a => [.val a]) (fun a => .st (.bool (wholeD a)))
abbrev D_is_whole (P : Program) (w : World) (K : PySem.W.Frag) (mg : Str → Option Value) (base : Heap) : Prop := DefOk P w K mg base "is_whole" s_is_whole ["thing"] 1 (Prm K mg sp_is_whole)
set_option linter.unusedVariables false in
theorem b_is_whole {P : Program} {w : World} {K : PySem.W.Frag} {mg : Str → Option Value} {base : Heap} (A : At K mg "is_whole" s_is_whole ["thing"]) (T : Free K mg)  : D_is_whole P w K mg base := by
  obtain ⟨f, fd, hm, F, hb⟩ := A
  refine ⟨f, fd, hm, F, hb, pure_fn F sc_is_whole (fun a => rfl) (fun a => rfl) (fun a => rfl) fun E B a ha => ?_⟩
  have nd : (["thing"] : List Str).Nodup := sc_is_whole.nd
  have ha : plnD a = true := ha
  refine go_ret (EV.to (ev_and (ev_isB .int (ev_val 0) T.isinstance T.int) fun _ => ev_not (ev_isB .bool (ev_val 0) T.isinstance T.bool)) ?_) rfl
  cases a <;> rfl
theorem list_or (a : PyData) : (∃ ds, a = .list ds) ∨ (isK a .list = false ∧ refV a = some (xV .none)) := by
  cases a with
  | list ds => exact .inl ⟨ds, rfl⟩
  | _ => exact .inr ⟨rfl, rfl⟩
abbrev s_check_values : Stmt := top 5
theorem sc_check_values : FnScope ["values", "index", "value"] ["values"] (defScope s_check_values) := ⟨rfl, rfl, rfl, by decide +kernel, rfl, by decide +kernel, by decide +kernel⟩
def sp_check_values : Rel := PureX (α := PyData) (fun a => pln2 a = true) (fun a => [.val a]) (fun a => outN (refV a))
abbrev D_check_values (P : Program) (w : World) (K : PySem.W.Frag) (mg : Str → Option Value) (base : Heap) : Prop := DefOk P w K mg base "check_values" s_check_values ["values"] 2 (Prm K mg sp_check_values)
set_option linter.unusedVariables false in
theorem b_check_values {P : Program} {w : World} {K : PySem.W.Frag} {mg : Str → Option Value} {base : Heap} (A : At K mg "check_values" s_check_values ["values"]) (T : Free K mg) (d_is_whole : D_is_whole P w K mg base) : D_check_values P w K mg base := by
  obtain ⟨f, fd, hm, F, hb⟩ := A
  refine ⟨f, fd, hm, F, hb, pureX_fn F sc_check_values (fun a => rfl) (fun a => rfl) (fun a => by unfold outN; split <;> rfl) fun E B a ha => ?_⟩
  have nd : (["values", "index", "value"] : List Str).Nodup := sc_check_values.nd
  have ha : pln2 a = true := ha
  have ha1 := pln2_1 ha
  obtain ⟨C, tC⟩ := T.c_InvalidValues
  rcases list_or a with ⟨ds, rfl⟩ | ⟨hk, hr⟩
  · refine go_leave (tv_or (tv_not (tv_val (ev_isB .list (ev_val 0) T.isinstance T.list))) fun _ => (cm_gt (ev_len (ev_val 0) T.len) (ev_gint T.MOST_VALUES)).tv) (fun hb => ?_) fun hb => ?_
    · refine go_raise tC.x ev_non ?_
      have hb : (120 : Int) < (ds.length : Int) := by simpa [isK] using hb
      show outN (refV (.list ds)) = .exn (xV .none)
      rw [refV_l, if_pos (by omega)]; rfl
    · have hb : ¬ 120 < ds.length := by
        have : ¬ (120 : Int) < (ds.length : Int) := by simpa [isK] using hb
        omega
      have e : refV (.list ds) = (badV ds 0).map fun i => xV (.int (i : Nat)) := by rw [refV_l, if_neg hb]
      refine go_last (g1_for (ei_enum (ev_val 0) T.enumerate) (fun i sl => ∃ x y, sl = [.val (.list ds), x, y] ∧ badV (ds.drop i) i = badV ds 0) ⟨_, _, rfl, rfl⟩ (fun i d sl hd h => ?_) fun sl h => ?_)
      · obtain ⟨x, y, rfl, h⟩ := h
        obtain ⟨v, hv, rfl⟩ := numbered_inv hd
        rw [drop_cons_of hv, badV] at h
        refine ⟨_, _, gt_tup (gts_cons (gt_name 1) (gts_cons (gt_name 2) gts_nil)), ?_⟩
        refine go_leave (tv_not (tv_val (ev_callP v d_is_whole (av_cons (ev_val 2) av_nil) (.st .nil) (pln2_l ha v (List.mem_of_getElem? hv))))) (fun hb => ?_) fun hb => ?_
        · refine go_raise tC.x (ev_val 1) ?_
          rw [if_neg (by simpa using hb)] at h
          show outN (refV (.list ds)) = .exn (xV (.int (i : Nat)))
          rw [e, ← h]; rfl
        · rw [if_pos (by simpa using hb)] at h
          exact go_nil ⟨_, _, rfl, h⟩
      · obtain ⟨x, y, rfl, h⟩ := h
        rw [numbered_len, List.drop_length] at h
        show outN (refV (.list ds)) = .ret (.st .none)
        rw [e, ← h]; rfl
  · refine go_leave (tv_or (u := false) (q := true) (tv_not (tv_val (ev_isB .list (ev_val 0) T.isinstance T.list))) fun h => absurd h (by rw [hk]; decide)) (fun hb => ?_) fun hb => absurd hb (by rw [hk]; decide)
    refine go_raise tC.x ev_non ?_
    show outN (refV a) = .exn (xV .none)
    rw [hr]; rfl
def wrongM (xs : List Int) : List PyData → Nat → Option Nat
  | [], _ => none
  | d :: r, i => match d with
    | .int v => if v ∈ xs then some i else wrongM (xs ++ [v]) r (i + 1)
    | _ => some i
theorem wrongM_none {ds : List PyData} : ∀ {xs : List Int} {i : Nat}, xs.Nodup → wrongM xs ds i = none → ∃ ys, ds = nums ys ∧ (xs ++ ys).Nodup := by
  induction ds with
  | nil => exact fun hx _ => ⟨[], rfl, by rwa [List.append_nil]⟩
  | cons d r ih =>
    intro xs i hx h
    unfold wrongM at h
    split at h
    · rename_i v
      split at h
      · cases h
      · rename_i hv
        have hn : (xs ++ [v]).Nodup := List.nodup_append.mpr ⟨hx, by simp, fun a ha b hb e => by rw [List.mem_singleton] at hb; subst hb; subst e; exact hv ha⟩
        obtain ⟨ys, rfl, h2⟩ := ih hn h
        exact ⟨v :: ys, rfl, by rw [List.append_assoc] at h2; exact h2⟩
    · cases h
theorem wrongM_nums : ∀ (ys xs : List Int) (r : List PyData) (i : Nat), (xs ++ ys).Nodup → wrongM xs (nums ys ++ r) i = wrongM (xs ++ ys) r (i + ys.length)
  | [], xs, r, i, _ => by rw [List.append_nil]; rfl
  | y :: ys, xs, r, i, h => by
    have hn : y ∉ xs := fun hm => by
      have := (List.nodup_append.mp h).2.2 y hm y (by simp)
      exact this rfl
    have := wrongM_nums ys (xs ++ [y]) r (i + 1) (by rw [List.append_assoc]; exact h)
    show (if y ∈ xs then some i else wrongM (xs ++ [y]) (nums ys ++ r) (i + 1)) = _
    rw [if_neg hn, this, List.append_assoc, List.length_cons, show i + 1 + ys.length = i + (ys.length + 1) by omega]; rfl
def marksB : PyData → Bool
  | .list ds => decide (ds.length ≤ 12) && (wrongM [] ds 0).isNone
  | _ => false
theorem marksB_l (ds : List PyData) : marksB (.list ds) = (decide (ds.length ≤ 12) && (wrongM [] ds 0).isNone) := rfl
theorem marksB_nums {m : List Int} (h : m.Nodup) (hl : m.length ≤ 12) : marksB (.list (nums m)) = true := by
  have := wrongM_nums m [] [] 0 h
  rw [List.append_nil] at this
  rw [marksB_l, this, len_nums, decide_eq_true hl]; rfl
theorem marksB_at {d : PyData} (h : marksB d = true) : ∃ m, d = .list (nums m) ∧ m.Nodup ∧ m.length ≤ 12 := by
  cases d with
  | list ds =>
    obtain ⟨h1, h2⟩ := Bool.and_eq_true_iff.mp (show (decide (ds.length ≤ 12) && (wrongM [] ds 0).isNone) = true from h)
    obtain ⟨m, rfl, h3⟩ := wrongM_none List.nodup_nil (Option.isNone_iff_eq_none.mp h2)
    have h1 := of_decide_eq_true h1
    rw [len_nums] at h1
    exact ⟨m, rfl, h3, h1⟩
  | _ => cases h
theorem wrongM_i (xs : List Int) (v : Int) (r : List PyData) (i : Nat) : wrongM xs (.int v :: r) i = if v ∈ xs then some i else wrongM (xs ++ [v]) r (i + 1) := rfl
theorem wrongM_o {d : PyData} (h : wholeD d = false) (xs : List Int) (r : List PyData) (i : Nat) : wrongM xs (d :: r) i = some i := by cases d <;> first | rfl | cases h
theorem whole_or (v : PyData) : (∃ w, v = .int w) ∨ wholeD v = false := by cases v <;> first | exact .inl ⟨_, rfl⟩ | exact .inr rfl
-- CUT
def upZ (n : Nat) : List Int := (List.range n).map fun (i : Nat) => (i : Int)
theorem upI_upZ (n : Nat) : upI 0 n = nums (upZ n) := by
  unfold upI nums upZ
  rw [List.map_map]
  exact List.map_congr_left fun i _ => by show PyData.int (0 + (i : Int)) = _; rw [Int.zero_add]; rfl
theorem upZ_len (n : Nat) : (upZ n).length = n := by unfold upZ; rw [List.length_map, List.length_range]
theorem mem_upZ {n : Nat} {x : Int} : x ∈ upZ n ↔ 0 ≤ x ∧ x < n := by
  unfold upZ
  rw [List.mem_map]
  constructor
  · rintro ⟨i, hi, rfl⟩
    rw [List.mem_range] at hi
    omega
  · intro h
    exact ⟨x.toNat, List.mem_range.mpr (by omega), by omega⟩
/-- the value at a place -/
def valA (xs : List Int) (p : Int) : Int := xs[p.toNat]?.getD 0
def okPl (xs lf : List Int) : Prop := ∀ p ∈ lf, 0 ≤ p ∧ p < (xs.length : Int)
theorem valA_at {xs : List Int} {p : Int} (h : 0 ≤ p ∧ p < (xs.length : Int)) : xs[p.toNat]? = some (valA xs p) := by
  unfold valA
  rw [List.getElem?_eq_getElem (by omega)]; rfl
/-- the places left that hold the value at h -/
def eqPl (xs lf : List Int) (h : Int) : List Int := lf.filter fun p => decide (valA xs p = valA xs h)
def dDrop (xs lf : List Int) (h : Int) : List Int := if 1 < (eqPl xs lf h).length then lf.eraseIdx (lf.idxOf ((eqPl xs lf h).headD 0)) else lf
/-- the places visited and left, from place at on -/
def dwalk (xs : List Int) : Nat → List Int → Nat → List Int × List Int
  | 0, lf, _ => ([], lf)
  | k + 1, lf, at_ => match lf[at_]? with
    | none => ([], lf)
    | some h => (h :: (dwalk xs k (dDrop xs lf h) (at_ + 1)).1, (dwalk xs k (dDrop xs lf h) (at_ + 1)).2)
def dW (xs : List Int) : List Int × List Int := dwalk xs xs.length (upZ xs.length) 0
theorem eqPl_sub {xs lf : List Int} {h p : Int} (hp : p ∈ eqPl xs lf h) : p ∈ lf := (List.mem_filter.mp hp).1
theorem headD_mem {l : List Int} (h : 0 < l.length) : l.headD 0 ∈ l := by
  cases l with
  | nil => cases h
  | cons x r => exact List.mem_cons_self
theorem idx_first {y : Int} : ∀ (l : List Int) (j : Nat), j < l.idxOf y → l[j]? ≠ some y
  | [], j, h, e => by simp at e
  | x :: r, j, h, e => by
    rw [List.idxOf_cons] at h
    by_cases hx : x = y
    · simp [hx] at h
    · have hb : (x == y) = false := beq_eq_false_iff_ne.mpr hx
      rw [hb] at h
      cases j with
      | zero => simp at e; exact hx e
      | succ j => exact idx_first r j (by simpa using h) (by simpa using e)
theorem dDrop_sub {xs lf : List Int} {h p : Int} (hp : p ∈ dDrop xs lf h) : p ∈ lf := by
  unfold dDrop at hp
  split at hp
  · exact List.mem_of_mem_eraseIdx hp
  · exact hp
theorem dDrop_len (xs lf : List Int) (h : Int) : (dDrop xs lf h).length ≤ lf.length := by
  unfold dDrop
  split
  · exact List.length_eraseIdx_le ..
  · exact Nat.le_refl _
theorem dwalk_done {xs : List Int} {k : Nat} {lf : List Int} {at_ : Nat} (h : lf.length ≤ at_) : dwalk xs k lf at_ = ([], lf) := by
  cases k with
  | zero => rfl
  | succ k => unfold dwalk; rw [List.getElem?_eq_none h]
theorem dwalk_step {xs : List Int} {k : Nat} {lf : List Int} {at_ : Nat} {h : Int} (e : lf[at_]? = some h) : dwalk xs (k + 1) lf at_ = (h :: (dwalk xs k (dDrop xs lf h) (at_ + 1)).1, (dwalk xs k (dDrop xs lf h) (at_ + 1)).2) := by
  rw [dwalk, e]
theorem dwalk_ok {xs : List Int} : ∀ (k : Nat) (lf : List Int) (at_ : Nat), okPl xs lf → okPl xs (dwalk xs k lf at_).1 ∧ okPl xs (dwalk xs k lf at_).2 ∧ (dwalk xs k lf at_).1.length ≤ k ∧ (dwalk xs k lf at_).2.length ≤ lf.length
  | 0, lf, _, h => ⟨(by intro p hp; cases hp), h, Nat.le_refl _, Nat.le_refl _⟩
  | k + 1, lf, at_, h => by
    cases e : lf[at_]? with
    | none =>
      rw [dwalk, e]
      exact ⟨(by intro p hp; cases hp), h, Nat.zero_le _, Nat.le_refl _⟩
    | some y =>
      rw [dwalk_step e]
      obtain ⟨h1, h2, h3, h4⟩ := dwalk_ok (xs := xs) k (dDrop xs lf y) (at_ + 1) fun p hp => h p (dDrop_sub hp)
      refine ⟨fun p hp => ?_, h2, by simpa using h3, Nat.le_trans h4 (dDrop_len ..)⟩
      rcases List.mem_cons.mp hp with rfl | hp
      · exact h _ (List.mem_of_getElem? e)
      · exact h1 p hp
theorem upZ_ok (xs : List Int) : okPl xs (upZ xs.length) := fun p hp => mem_upZ.mp hp
theorem dW_ok (xs : List Int) : okPl xs (dW xs).1 ∧ okPl xs (dW xs).2 ∧ (dW xs).1.length ≤ xs.length ∧ (dW xs).2.length ≤ xs.length := by
  have := dwalk_ok xs.length (upZ xs.length) 0 (upZ_ok xs)
  rw [upZ_len] at this
  exact this
/-- what a doublet pass leaves -/
def dlf (xs : List Int) : List Int := (dW xs).2.map (valA xs)
def dRight (xs : List Int) : Bool := decide ((dst (dlf xs)).length = (dlf xs).length)
theorem dlf_len (xs : List Int) : (dlf xs).length ≤ xs.length := by unfold dlf; rw [List.length_map]; exact (dW_ok xs).2.2.2
/-- a thing's numbers -/
def numsOf : PyData → List Int
  | .list ds => ds.filterMap fun d => match d with | .int v => some v | _ => none
  | _ => []
theorem numsOf_nums (xs : List Int) : numsOf (.list (nums xs)) = xs := by
  show (nums xs).filterMap _ = xs
  induction xs with
  | nil => rfl
  | cons x r ih => exact congrArg (x :: ·) ih
theorem pln2_numsZ (xs : List Int) : pln2 (.list (nums xs)) = true := pln_nums xs
theorem refV_noneZ {r : PyData} (h : refV r = none) : ∃ xs, r = .list (nums xs) ∧ xs.length ≤ 120 := by
  rcases list_or r with ⟨ds, rfl⟩ | ⟨_, h2⟩
  · rw [refV_l] at h
    split at h
    · cases h
    · rename_i hl
      obtain ⟨xs, rfl⟩ := badV_none (Option.map_eq_none_iff.mp h)
      rw [len_nums] at hl
      exact ⟨xs, rfl, by omega⟩
  · rw [h] at h2; cases h2
/-- a def of one list -/
def oneO (g : List Int → Kd) (d : PyData) : Out := match refV d with
  | some x => .exn x
  | none => .ret (g (numsOf d))
theorem oneO_good {g : List Int → Kd} {xs : List Int} (h : xs.length ≤ 120) : oneO g (.list (nums xs)) = .ret (g xs) := by unfold oneO; rw [refV_nums h, numsOf_nums]
theorem oneO_bad {g : List Int → Kd} {d : PyData} {z : Exn} (h : refV d = some z) : oneO g d = .exn z := by unfold oneO; rw [h]
abbrev s_walk_of : Stmt := top 7
theorem sc_walk_of : FnScope ["values", "left", "visits", "at", "here", "equal", "place"] ["values"] (defScope s_walk_of) := ⟨rfl, rfl, rfl, by decide +kernel, rfl, by decide +kernel, by decide +kernel⟩
def sp_walk_of : Rel := Pure (α := List Int) (fun a => a.length ≤ 1000) (fun a => [kL a]) (fun a => .ft (.tup [.ls (nums (dW a).1), .ls (nums (dW a).2)]))
abbrev D_walk_of (P : Program) (w : World) (K : PySem.W.Frag) (mg : Str → Option Value) (base : Heap) : Prop := DefOk P w K mg base "walk_of" s_walk_of ["values"] 1 (Prm K mg sp_walk_of)
set_option linter.unusedVariables false in
theorem b_walk_of {P : Program} {w : World} {K : PySem.W.Frag} {mg : Str → Option Value} {base : Heap} (A : At K mg "walk_of" s_walk_of ["values"]) (T : Free K mg)  : D_walk_of P w K mg base := by
  obtain ⟨f, fd, hm, F, hb⟩ := A
  refine ⟨f, fd, hm, F, hb, pure_fn F sc_walk_of (fun a => rfl) (fun a => rfl) (fun a => rfl) fun E B a ha => ?_⟩
  have nd : (["values", "left", "visits", "at", "here", "equal", "place"] : List Str).Nodup := sc_walk_of.nd
  have ha : a.length ≤ 1000 := ha
  refine go_parG3 (t1 := .ls (nums (upZ a.length))) (t2 := .ls (nums [])) (t3 := .st (.int 0)) 1 2 3 (avg_cons (evg_p (evp_fr (EV.to (ev_listRg (ev_len (ev_val 0) T.len) T.list T.range (by rw [len_nums]; omega)) (by rw [len_nums, Int.toNat_natCast, upI_upZ])))) (avg_cons (evg_p (evp_fr (ev_lst av_nil .nil))) (avg_cons (evg_p (evp_st ev_int)) avg_nil))) fun _ _ _ => ?_
  refine go_cons (M := fun sl => ∃ x3 x4 x5, sl = [kL a, kO (dW a).2, kO (dW a).1, x3, x4, x5, .no]) (g1_while (fun m sl => ∃ (lf vs : List Int) (p : Nat) (x4 x5 : Sl), sl = [kL a, kO lf, kO vs, kI p, x4, x5, .no] ∧ okPl a lf ∧ lf.length ≤ m + p ∧ lf.length ≤ 1000 ∧ vs.length ≤ p ∧ p ≤ 1000 ∧ vs ++ (dwalk a m lf p).1 = (dW a).1 ∧ (dwalk a m lf p).2 = (dW a).2)
    a.length ⟨upZ a.length, [], 0, _, _, rfl, upZ_ok a, (by rw [upZ_len]; omega), (by rw [upZ_len]; omega), Nat.le_refl _, Nat.zero_le _, rfl, rfl⟩ fun m sl h => ?_) fun sl h => ?_
  · obtain ⟨lf, vs, p, x4, x5, rfl, h1, h2, h3, h4, h5, h6, h7⟩ := h
    refine ⟨_, _, _, (cm_lt (ev_val 3) (ev_len (ev_own 1) T.len)).tv, fun hb => ?_, fun hb => ?_⟩
    · have hb := of_decide_eq_true hb
      rw [len_nums] at hb
      have hb : p < lf.length := by omega
      obtain ⟨y, hy⟩ : ∃ y, lf[p]? = some y := ⟨_, List.getElem?_eq_getElem hb⟩
      obtain ⟨m, rfl⟩ : ∃ m', m = m' + 1 := ⟨m - 1, by omega⟩
      rw [dwalk_step hy] at h6 h7
      have hyl := h1 y (List.mem_of_getElem? hy)
      refine go_set 4 (ev_ixN (n := p) (ev_own 1) (ev_val 3) hy) ?_
      refine go_append 2 (ev_val 4) (hl := by rw [len_nums]; omega) ?_
      refine go_setFN 5 6 (fun q => decide (valA a q = valA a y)) (ei_ls (ev_own 1)) (fun i q hq => ?_) (by omega) ?_
      · have hql := h1 q (List.mem_of_getElem? hq)
        exact CM.tv (cm_eqI (ev_ixN (n := q.toNat) (ev_val 0) (EV.to (ev_val 6) (by rw [Int.toNat_of_nonneg hql.1])) (valA_at hql)) (ev_ixN (n := y.toNat) (ev_val 0) (EV.to (ev_val 4) (by rw [Int.toNat_of_nonneg hyl.1])) (valA_at hyl)))
      refine go_augI 3 rfl ev_int ?_
      have e1 : vs ++ y :: (dwalk a m (dDrop a lf y) (p + 1)).1 = (dW a).1 := h6
      refine go_last (g1_if (cm_gt (ev_len (ev_own 5) T.len) ev_int).tv (fun hb2 => ?_) fun hb2 => ?_)
      · have hb2 := of_decide_eq_true hb2
        rw [len_nums] at hb2
        have hb2 : 1 < (eqPl a lf y).length := by show 1 < (lf.filter _).length; omega
        have hm := headD_mem (l := eqPl a lf y) (by omega)
        have hm2 := eqPl_sub hm
        have hd : dDrop a lf y = lf.eraseIdx (lf.idxOf ((eqPl a lf y).headD 0)) := by unfold dDrop; rw [if_pos hb2]
        have h0 : (lf.filter fun q => decide (valA a q = valA a y))[0]? = some ((eqPl a lf y).headD 0) := by
          show (eqPl a lf y)[0]? = _
          cases he : eqPl a lf y with
          | nil => rw [he] at hb2; cases hb2
          | cons x r => rfl
        have hix : lf[lf.idxOf ((eqPl a lf y).headD 0)]? = some ((eqPl a lf y).headD 0) := by
          rw [List.getElem?_eq_getElem (List.idxOf_lt_length_of_mem hm2), List.getElem_idxOf]
        refine go_remove 1 (ev_ixN (n := 0) (ev_own 5) ev_int h0) hix (fun j hj hjj => ?_) (go_nil ⟨m, by omega, dDrop a lf y, vs ++ [y], p + 1, kI y, kO (lf.filter fun q => decide (valA a q = valA a y)), ?_, fun q hq => h1 q (dDrop_sub hq), ?_, ?_, ?_, by omega, ?_, h7⟩)
        · exact idx_first lf j hj hjj
        · rw [hd]
          exact congrArg (fun z => [kL a, kO (lf.eraseIdx (lf.idxOf ((eqPl a lf y).headD 0))), Sl.own (.lst z), kI ((p : Int) + 1), kI y, kO (lf.filter fun q => decide (valA a q = valA a y)), .no]) (nums_snoc vs y)
        · have := dDrop_len a lf y; omega
        · have := dDrop_len a lf y; omega
        · rw [List.length_append, List.length_singleton]; omega
        · rw [List.append_assoc]; exact e1
      · have hb2 := of_decide_eq_false hb2
        rw [len_nums] at hb2
        have hd : dDrop a lf y = lf := by
          unfold dDrop
          rw [if_neg]
          show ¬ 1 < (lf.filter _).length
          omega
        rw [hd] at e1 h7
        refine go_nil ⟨m, by omega, lf, vs ++ [y], p + 1, kI y, kO (lf.filter fun q => decide (valA a q = valA a y)), congrArg (fun z => [kL a, kO lf, Sl.own (.lst z), kI ((p : Int) + 1), kI y, kO (lf.filter fun q => decide (valA a q = valA a y)), .no]) (nums_snoc vs y), h1, by omega, h3, (by rw [List.length_append, List.length_singleton]; omega), by omega, by rw [List.append_assoc]; exact e1, h7⟩
    · have hb := of_decide_eq_false hb
      rw [len_nums] at hb
      rw [dwalk_done (by omega)] at h6 h7
      have h6 : vs ++ [] = (dW a).1 := h6
      have h7 : lf = (dW a).2 := h7
      rw [List.append_nil] at h6
      rw [← h6, ← h7]
      exact ⟨_, _, _, rfl⟩
  · obtain ⟨x3, x4, x5, rfl⟩ := h
    exact go_retG (evg_tup (avg_cons (evg_own 2) (avg_cons (evg_own 1) avg_nil))) rfl
abbrev s_is_right : Stmt := top 8
theorem sc_is_right : FnScope ["values", "left", "place"] ["values"] (defScope s_is_right) := ⟨rfl, rfl, rfl, by decide +kernel, rfl, by decide +kernel, by decide +kernel⟩
def sp_is_right : Rel := Pure (α := List Int) (fun a => a.length ≤ 1000) (fun a => [kL a]) (fun a => .st (.bool (dRight a)))
abbrev D_is_right (P : Program) (w : World) (K : PySem.W.Frag) (mg : Str → Option Value) (base : Heap) : Prop := DefOk P w K mg base "is_right" s_is_right ["values"] 2 (Prm K mg sp_is_right)
set_option linter.unusedVariables false in
theorem b_is_right {P : Program} {w : World} {K : PySem.W.Frag} {mg : Str → Option Value} {base : Heap} (A : At K mg "is_right" s_is_right ["values"]) (T : Free K mg) (d_walk_of : D_walk_of P w K mg base) : D_is_right P w K mg base := by
  obtain ⟨f, fd, hm, F, hb⟩ := A
  refine ⟨f, fd, hm, F, hb, pure_fn F sc_is_right (fun a => rfl) (fun a => rfl) (fun a => rfl) fun E B a ha => ?_⟩
  have nd : (["values", "left", "place"] : List Str).Nodup := sc_is_right.nd
  have ha : a.length ≤ 1000 := ha
  obtain ⟨w1, w2, w3, w4⟩ := dW_ok a
  refine go_setMN 1 2 (valA a) (ei_ls (EVP.fr (evp_ixT 1 (evp_callP a d_walk_of (av_cons (ev_val 0) av_nil) (.st .nil) ha) ev_int rfl))) (fun i q hq => ?_) (by omega) ?_
  · have hql := w2 q (List.mem_of_getElem? hq)
    exact ev_ixN (n := q.toNat) (ev_val 0) (EV.to (ev_val 2) (by rw [Int.toNat_of_nonneg hql.1])) (valA_at hql)
  have hl := dlf_len a
  refine go_ret (EV.to (cm_eqI (ev_lenSet (xs := dlf a) (ev_own 1) T.len T.set (by omega)) (ev_len (ds := nums (dlf a)) (ev_own 1) T.len)).ev (k' := .st (.bool (dRight a))) ?_) rfl
  rw [len_nums]
  unfold dRight
  congr 2
  exact decide_eq_decide.mpr Int.ofNat_inj
abbrev s_after_doublet_pass : Stmt := top 9
theorem sc_after_doublet_pass : FnScope ["values", "place"] ["values"] (defScope s_after_doublet_pass) := ⟨rfl, rfl, rfl, by decide +kernel, rfl, by decide +kernel, by decide +kernel⟩
def sp_after_doublet_pass : Rel := PureX (α := PyData) (fun a => pln2 a = true) (fun a => [.val a]) (fun a => oneO (fun xs => .fr (.lst (nums (dlf xs)))) a)
abbrev D_after_doublet_pass (P : Program) (w : World) (K : PySem.W.Frag) (mg : Str → Option Value) (base : Heap) : Prop := DefOk P w K mg base "after_doublet_pass" s_after_doublet_pass ["values"] 3 (Prm K mg sp_after_doublet_pass)
set_option linter.unusedVariables false in
theorem b_after_doublet_pass {P : Program} {w : World} {K : PySem.W.Frag} {mg : Str → Option Value} {base : Heap} (A : At K mg "after_doublet_pass" s_after_doublet_pass ["values"]) (T : Free K mg) (d_check_values : D_check_values P w K mg base) (d_walk_of : D_walk_of P w K mg base) : D_after_doublet_pass P w K mg base := by
  obtain ⟨f, fd, hm, F, hb⟩ := A
  refine ⟨f, fd, hm, F, hb, pureX_fn F sc_after_doublet_pass (fun a => rfl) (fun a => rfl) (fun a => by unfold oneO; split <;> rfl) fun E B a ha => ?_⟩
  have nd : (["values", "place"] : List Str).Nodup := sc_after_doublet_pass.nd
  have ha : pln2 a = true := ha
  cases e : refV a with
  | some z => exact go_exprX (xv_call a d_check_values (av_cons (ev_val 0) av_nil) (.st .nil) ha (by show outN (refV a) = _; rw [e]; rfl)) (oneO_bad e)
  | none =>
    refine go_expr (ev_callO a d_check_values (av_cons (ev_val 0) av_nil) (.st .nil) ha (k := .st .none) (by show outN (refV a) = _; rw [e]; rfl)) ?_
    obtain ⟨xs, rfl, hx⟩ := refV_noneZ e
    obtain ⟨w1, w2, w3, w4⟩ := dW_ok xs
    have hx2 : xs.length ≤ 1000 := by omega
    refine go_ret (evN_map 1 (valA xs) (ei_ls (EVP.fr (evp_ixT 1 (evp_callP xs d_walk_of (av_cons (ev_val 0) av_nil) (.st .nil) hx2) ev_int rfl))) (fun i q hq => ?_) (by omega)) (oneO_good hx)
    have hql := w2 q (List.mem_of_getElem? hq)
    exact ev_ixN (n := q.toNat) (ev_val 0) (EV.to (ev_val 1) (by rw [Int.toNat_of_nonneg hql.1])) (valA_at hql)
theorem kw_after_doublet_pass_values : KwOk "after_doublet_pass" s_after_doublet_pass ["values"] ["values"] 0 [0] := fun _ _ _ _ _ _ us ws h1 h2 => match us, ws, h1, h2 with
  | [], [_], _, _ => rfl
abbrev s_doublet_visits : Stmt := top 10
theorem sc_doublet_visits : FnScope ["values"] ["values"] (defScope s_doublet_visits) := ⟨rfl, rfl, rfl, by decide +kernel, rfl, by decide +kernel, by decide +kernel⟩
def sp_doublet_visits : Rel := PureX (α := PyData) (fun a => pln2 a = true) (fun a => [.val a]) (fun a => oneO (fun xs => .fr (.lst (nums (dW xs).1))) a)
abbrev D_doublet_visits (P : Program) (w : World) (K : PySem.W.Frag) (mg : Str → Option Value) (base : Heap) : Prop := DefOk P w K mg base "doublet_visits" s_doublet_visits ["values"] 3 (Prm K mg sp_doublet_visits)
set_option linter.unusedVariables false in
theorem b_doublet_visits {P : Program} {w : World} {K : PySem.W.Frag} {mg : Str → Option Value} {base : Heap} (A : At K mg "doublet_visits" s_doublet_visits ["values"]) (T : Free K mg) (d_check_values : D_check_values P w K mg base) (d_walk_of : D_walk_of P w K mg base) : D_doublet_visits P w K mg base := by
  obtain ⟨f, fd, hm, F, hb⟩ := A
  refine ⟨f, fd, hm, F, hb, pureX_fn F sc_doublet_visits (fun a => rfl) (fun a => rfl) (fun a => by unfold oneO; split <;> rfl) fun E B a ha => ?_⟩
  have nd : (["values"] : List Str).Nodup := sc_doublet_visits.nd
  have ha : pln2 a = true := ha
  cases e : refV a with
  | some z => exact go_exprX (xv_call a d_check_values (av_cons (ev_val 0) av_nil) (.st .nil) ha (by show outN (refV a) = _; rw [e]; rfl)) (oneO_bad e)
  | none =>
    refine go_expr (ev_callO a d_check_values (av_cons (ev_val 0) av_nil) (.st .nil) ha (k := .st .none) (by show outN (refV a) = _; rw [e]; rfl)) ?_
    obtain ⟨xs, rfl, hx⟩ := refV_noneZ e
    have hx2 : xs.length ≤ 1000 := by omega
    exact go_ret (EVP.fr (evp_ixT 0 (evp_callP xs d_walk_of (av_cons (ev_val 0) av_nil) (.st .nil) hx2) ev_int rfl)) (oneO_good hx)
theorem kw_doublet_visits_values : KwOk "doublet_visits" s_doublet_visits ["values"] ["values"] 0 [0] := fun _ _ _ _ _ _ us ws h1 h2 => match us, ws, h1, h2 with
  | [], [_], _, _ => rfl
abbrev s_comes_out_right : Stmt := top 11
theorem sc_comes_out_right : FnScope ["values"] ["values"] (defScope s_comes_out_right) := ⟨rfl, rfl, rfl, by decide +kernel, rfl, by decide +kernel, by decide +kernel⟩
def sp_comes_out_right : Rel := PureX (α := PyData) (fun a => pln2 a = true) (fun a => [.val a]) (fun a => oneO (fun xs => .st (.bool (dRight xs))) a)
abbrev D_comes_out_right (P : Program) (w : World) (K : PySem.W.Frag) (mg : Str → Option Value) (base : Heap) : Prop := DefOk P w K mg base "comes_out_right" s_comes_out_right ["values"] 3 (Prm K mg sp_comes_out_right)
set_option linter.unusedVariables false in
theorem b_comes_out_right {P : Program} {w : World} {K : PySem.W.Frag} {mg : Str → Option Value} {base : Heap} (A : At K mg "comes_out_right" s_comes_out_right ["values"]) (T : Free K mg) (d_check_values : D_check_values P w K mg base) (d_is_right : D_is_right P w K mg base) : D_comes_out_right P w K mg base := by
  obtain ⟨f, fd, hm, F, hb⟩ := A
  refine ⟨f, fd, hm, F, hb, pureX_fn F sc_comes_out_right (fun a => rfl) (fun a => rfl) (fun a => by unfold oneO; split <;> rfl) fun E B a ha => ?_⟩
  have nd : (["values"] : List Str).Nodup := sc_comes_out_right.nd
  have ha : pln2 a = true := ha
  cases e : refV a with
  | some z => exact go_exprX (xv_call a d_check_values (av_cons (ev_val 0) av_nil) (.st .nil) ha (by show outN (refV a) = _; rw [e]; rfl)) (oneO_bad e)
  | none =>
    refine go_expr (ev_callO a d_check_values (av_cons (ev_val 0) av_nil) (.st .nil) ha (k := .st .none) (by show outN (refV a) = _; rw [e]; rfl)) ?_
    obtain ⟨xs, rfl, hx⟩ := refV_noneZ e
    have hx2 : xs.length ≤ 1000 := by omega
    exact go_ret (ev_callP xs d_is_right (av_cons (ev_val 0) av_nil) (.st .nil) hx2) (oneO_good hx)
theorem kw_comes_out_right_values : KwOk "comes_out_right" s_comes_out_right ["values"] ["values"] 0 [0] := fun _ _ _ _ _ _ us ws h1 h2 => match us, ws, h1, h2 with
  | [], [_], _, _ => rfl
-- CUT
def rwP (xs lf : List Int) : List PyData := lf.map fun p => .tuple [.int (valA xs p), .int p]
theorem rwP_len (xs lf : List Int) : (rwP xs lf).length = lf.length := by unfold rwP; rw [List.length_map]
theorem rwP_get {xs lf : List Int} {i : Nat} {p : Int} (h : lf[i]? = some p) : (rwP xs lf)[i]? = some (.tuple [.int (valA xs p), .int p]) := by unfold rwP; rw [List.getElem?_map, h]; rfl
theorem rwP_at {xs lf : List Int} {i : Nat} {d : PyData} (h : (rwP xs lf)[i]? = some d) : ∃ p, lf[i]? = some p ∧ d = .tuple [.int (valA xs p), .int p] := by
  unfold rwP at h
  rw [List.getElem?_map] at h
  obtain ⟨p, hp, e⟩ := Option.map_eq_some_iff.mp h
  exact ⟨p, hp, e.symm⟩
theorem rwP_cut (xs lf : List Int) (j : Nat) : (rwP xs lf).take j ++ (rwP xs lf).drop (j + 1) = rwP xs (lf.eraseIdx j) := by
  unfold rwP
  rw [List.eraseIdx_eq_take_drop_succ, List.map_append, List.map_take, List.map_drop]
def swF : PyData → Option PyData
  | .tuple [.int i, .int v] => some (.tuple [.int v, .int i])
  | _ => none
def oneF (v : Int) : PyData → Option PyData
  | .tuple [.int a, .int _] => if a = v then some (.int a) else none
  | _ => none
def spF (v : Int) : PyData → Option PyData
  | .tuple [.int i, .tuple [.int a, .int _]] => if a = v then some (.int i) else none
  | _ => none
def hdF : PyData → Option PyData
  | .tuple [.int a, .int _] => some (.int a)
  | _ => none
theorem numbered_valA (xs : List Int) : numbered (nums xs) = (upZ xs.length).map fun p => PyData.tuple [.int p, .int (valA xs p)] := by
  refine List.ext_getElem? fun i => ?_
  unfold upZ
  by_cases hi : i < xs.length
  · rw [numbered_get (get_nums (List.getElem?_eq_getElem hi)), List.map_map, List.getElem?_map, List.getElem?_range hi, Option.map_some]
    show _ = some (PyData.tuple [.int (i : Int), .int (valA xs (i : Int))])
    unfold valA
    rw [Int.toNat_natCast, List.getElem?_eq_getElem hi]; rfl
  · rw [List.getElem?_eq_none (by rw [numbered_len, len_nums]; omega), List.getElem?_eq_none (by rw [List.length_map, List.length_map, List.length_range]; omega)]
theorem swF_all (xs : List Int) : (numbered (nums xs)).filterMap swF = rwP xs (upZ xs.length) := by
  rw [numbered_valA, List.filterMap_map]
  show (upZ xs.length).filterMap (some ∘ fun p => PyData.tuple [.int (valA xs p), .int p]) = _
  rw [List.filterMap_eq_map]; rfl
theorem oneF_all (xs : List Int) (v : Int) : ∀ lf : List Int, (rwP xs lf).filterMap (oneF v) = (lf.filter fun p => decide (valA xs p = v)).map fun p => .int (valA xs p)
  | [] => rfl
  | p :: r => by
    have ih := oneF_all xs v r
    show List.filterMap _ (PyData.tuple [.int (valA xs p), .int p] :: rwP xs r) = _
    by_cases h : valA xs p = v
    · rw [List.filterMap_cons_some (show oneF v (.tuple [.int (valA xs p), .int p]) = some (.int (valA xs p)) from if_pos h), ih, List.filter_cons_of_pos (by simpa using h)]; rfl
    · rw [List.filterMap_cons_none (show oneF v (.tuple [.int (valA xs p), .int p]) = none from if_neg h), ih, List.filter_cons_of_neg (by simpa using h)]
theorem hdF_all (xs : List Int) : ∀ lf : List Int, (rwP xs lf).filterMap hdF = nums (lf.map (valA xs))
  | [] => rfl
  | p :: r => by
    have ih := hdF_all xs r
    show List.filterMap _ (PyData.tuple [.int (valA xs p), .int p] :: rwP xs r) = _
    rw [List.filterMap_cons_some (show hdF _ = some (.int (valA xs p)) from rfl), ih]; rfl
theorem spF_first (xs : List Int) (v : Int) : ∀ (lf : List Int) (k : Nat), 0 < (lf.filter fun p => decide (valA xs p = v)).length →
    (((rwP xs lf).zipIdx k).map fun x => PyData.tuple [.int (x.2 : Nat), x.1]).filterMap (spF v) ≠ [] ∧ ((((rwP xs lf).zipIdx k).map fun x => PyData.tuple [.int (x.2 : Nat), x.1]).filterMap (spF v))[0]? = some (.int ((k + lf.idxOf ((lf.filter fun p => decide (valA xs p = v)).headD 0) : Nat) : Int))
  | [], k, h => by cases h
  | p :: r, k, h => by
    show List.filterMap _ (PyData.tuple [.int (k : Nat), .tuple [.int (valA xs p), .int p]] :: ((rwP xs r).zipIdx (k + 1)).map _) ≠ [] ∧ (List.filterMap _ (PyData.tuple [.int (k : Nat), .tuple [.int (valA xs p), .int p]] :: ((rwP xs r).zipIdx (k + 1)).map _))[0]? = _
    by_cases hp : valA xs p = v
    · rw [List.filterMap_cons_some (show spF v (.tuple [.int (k : Nat), .tuple [.int (valA xs p), .int p]]) = some (.int (k : Nat)) from if_pos hp), List.filter_cons_of_pos (by simpa using hp)]
      refine ⟨by simp, ?_⟩
      simp
    · rw [List.filter_cons_of_neg (by simpa using hp)] at h ⊢
      rw [List.filterMap_cons_none (show spF v (.tuple [.int (k : Nat), .tuple [.int (valA xs p), .int p]]) = none from if_neg hp)]
      obtain ⟨h1, h2⟩ := spF_first xs v r (k + 1) h
      refine ⟨h1, h2.trans ?_⟩
      have hm := headD_mem h
      have hq := of_decide_eq_true (List.mem_filter.mp hm).2
      rw [List.idxOf_cons]
      have hne : (p == (r.filter fun p => decide (valA xs p = v)).headD 0) = false := beq_eq_false_iff_ne.mpr fun z => hp (by rw [z]; exact hq)
      rw [hne]
      show some (PyData.int ((k + 1 + _ : Nat) : Int)) = some (.int ((k + (_ + 1) : Nat) : Int))
      congr 3; omega
abbrev s_law_walked : Stmt := top 15
theorem sc_law_walked : FnScope ["_law_a_values", "_law_value", "_law_row", "_law_stops", "_law_at", "_law_first", "_law_place", "_law_one", "_law_spot", "_law_pair"] ["_law_a_values"] (defScope s_law_walked) := ⟨rfl, rfl, rfl, by decide +kernel, rfl, by decide +kernel, by decide +kernel⟩
def sp_law_walked : Rel := Pure (α := List Int) (fun a => a.length ≤ 1000) (fun a => [kL a]) (fun a => .ft (.tup [.ls (nums (dW a).1), .ls (nums (dlf a))]))
abbrev D_law_walked (P : Program) (w : World) (K : PySem.W.Frag) (mg : Str → Option Value) (base : Heap) : Prop := DefOk P w K mg base "_law_walked" s_law_walked ["_law_a_values"] 1 (Prm K mg sp_law_walked)
set_option linter.unusedVariables false in
theorem b_law_walked {P : Program} {w : World} {K : PySem.W.Frag} {mg : Str → Option Value} {base : Heap} (A : At K mg "_law_walked" s_law_walked ["_law_a_values"]) (T : Free K mg)  : D_law_walked P w K mg base := by
  obtain ⟨f, fd, hm, F, hb⟩ := A
  refine ⟨f, fd, hm, F, hb, pure_fn F sc_law_walked (fun a => rfl) (fun a => rfl) (fun a => rfl) fun E B a ha => ?_⟩
  have nd : (["_law_a_values", "_law_value", "_law_row", "_law_stops", "_law_at", "_law_first", "_law_place", "_law_one", "_law_spot", "_law_pair"] : List Str).Nodup := sc_law_walked.nd
  have ha : a.length ≤ 1000 := ha
  refine go_setC 2 [("_law_place", 6), ("_law_value", 1)] swF (ei_enum (z := true) (ev_val 0) T.enumerate) (fun i d hd => ?_) (by rw [numbered_len, len_nums]; omega) (swF_all a) ?_
  · obtain ⟨v, hv, rfl⟩ := numbered_nums hd
    exact ⟨_, _, true, gt_tup (gts_cons (gt_name 6) (gts_cons (gt_name 1) gts_nil)), by decide, tvs_nil, fun _ => ⟨_, rfl, ev_tup (av_cons (ev_val 1) (av_cons (ev_val 6) av_nil)) (.cons (.cons .nil))⟩, fun h => nomatch h⟩
  refine go_set 3 (ev_lst av_nil .nil) ?_
  refine go_set 4 ev_int ?_
  refine go_cons (M := fun sl => ∃ x1 x4 x5, sl = [kL a, x1, .own (.lst (rwP a (dW a).2)), kO (dW a).1, x4, x5, .no, .no, .no, .no]) (g1_while (fun m sl => ∃ (lf vs : List Int) (p : Nat) (x1 x5 : Sl), sl = [kL a, x1, .own (.lst (rwP a lf)), kO vs, kI p, x5, .no, .no, .no, .no] ∧ okPl a lf ∧ lf.length ≤ m + p ∧ lf.length ≤ 1000 ∧ vs.length ≤ p ∧ p ≤ 1000 ∧ vs ++ (dwalk a m lf p).1 = (dW a).1 ∧ (dwalk a m lf p).2 = (dW a).2)
    a.length ⟨upZ a.length, [], 0, _, _, rfl, upZ_ok a, (by rw [upZ_len]; omega), (by rw [upZ_len]; omega), Nat.le_refl _, Nat.zero_le _, rfl, rfl⟩ fun m sl h => ?_) fun sl h => ?_
  · obtain ⟨lf, vs, p, x1, x5, rfl, h1, h2, h3, h4, h5, h6, h7⟩ := h
    refine ⟨_, _, _, (cm_lt (ev_val 4) (ev_len (ev_own 2) T.len)).tv, fun hb => ?_, fun hb => ?_⟩
    · have hb := of_decide_eq_true hb
      rw [rwP_len] at hb
      have hb : p < lf.length := by omega
      obtain ⟨y, hy⟩ : ∃ y, lf[p]? = some y := ⟨_, List.getElem?_eq_getElem hb⟩
      obtain ⟨m, rfl⟩ : ∃ m', m = m' + 1 := ⟨m - 1, by omega⟩
      rw [dwalk_step hy] at h6 h7
      have e1 : vs ++ y :: (dwalk a m (dDrop a lf y) (p + 1)).1 = (dW a).1 := h6
      refine go_set 1 (ev_ixT (ev_ix (ev_own 2) (ev_val 4) .ls (atI_nat (rwP_get hy))) ev_int rfl) ?_
      refine go_append 3 (ev_ixT (ev_ix (ev_own 2) (ev_val 4) .ls (atI_nat (rwP_get hy))) ev_int rfl) (hl := by rw [len_nums]; omega) ?_
      refine go_set 4 (ev_add (ev_val 4) ev_int) ?_
      have hc1 : ((rwP a lf).filterMap (oneF (valA a y))).length = (eqPl a lf y).length := by rw [oneF_all, List.length_map]; rfl
      refine go_last (g1_if (CM.tv (cm_gt (ev_len (ev_comp [("_law_one", 7), ("_law_place", 6)] (oneF (valA a y)) (ei_ls (ev_own 2)) (fun j d hd => ?_) (by rw [rwP_len]; omega)) T.len) ev_int)) (fun hb2 => ?_) fun hb2 => ?_)
      · obtain ⟨q, hq, rfl⟩ := rwP_at hd
        refine ⟨_, _, decide (valA a q = valA a y), gt_tup (gts_cons (gt_name 7) (gts_cons (gt_name 6) gts_nil)), by decide, tvs_one (CM.tv (cm_eqI (ev_val 7) (ev_val 1))), fun h => ⟨_, if_pos (of_decide_eq_true h), ev_val 7⟩, fun h => if_neg (of_decide_eq_false h)⟩
      · have hb2 := of_decide_eq_true hb2
        rw [hc1] at hb2
        have hb2 : 1 < (eqPl a lf y).length := by omega
        have hd : dDrop a lf y = lf.eraseIdx (lf.idxOf ((eqPl a lf y).headD 0)) := by unfold dDrop; rw [if_pos hb2]
        obtain ⟨_, h0⟩ := spF_first a (valA a y) lf 0 (show 0 < (eqPl a lf y).length by omega)
        have h0 : ((numbered (rwP a lf)).filterMap (spF (valA a y)))[0]? = some (.int ((lf.idxOf ((eqPl a lf y).headD 0) : Nat) : Int)) := by rw [Nat.zero_add] at h0; exact h0
        generalize hj : lf.idxOf ((eqPl a lf y).headD 0) = j at hd h0
        have hjl : j ≤ 1000 := by
          rw [← hj]
          exact Nat.le_trans (List.idxOf_le_length) h3
        refine go_set 5 (ev_ix (d := .int (j : Int)) (i := (0 : Nat)) (ev_comp [("_law_spot", 8), ("_law_pair", 9)] (spF (valA a y)) (ei_enum (z := false) (ev_own 2) T.enumerate) (fun j d hd => ?_) (by rw [numbered_len, rwP_len]; omega)) ev_int .fr (atI_nat h0)) ?_
        · obtain ⟨e, he, rfl⟩ := numbered_inv hd
          obtain ⟨q, hq, rfl⟩ := rwP_at he
          exact ⟨_, _, decide (valA a q = valA a y), gt_tup (gts_cons (gt_name 8) (gts_cons (gt_name 9) gts_nil)), by decide, tvs_one (CM.tv (cm_eqI (ev_ixT (ev_val 9) ev_int rfl) (ev_val 1))), fun h => ⟨_, if_pos (of_decide_eq_true h), ev_val 8⟩, fun h => if_neg (of_decide_eq_false h)⟩
        refine go_set 2 (EV.to (ev_cat (ev_sliceTo (n := j) (ev_own 2) (ev_val 5)) (ev_sliceFrom (n := j + 1) (ev_own 2) (EV.to (k := .st (.int ((j : Int) + 1))) (ev_add (ev_val 5) ev_int) rfl)) (hz := ?_)) (k' := .fr (.lst (rwP a (dDrop a lf y)))) (by rw [rwP_cut, hd])) ?_
        · have e := congrArg List.length (rwP_cut a lf j)
          rw [List.length_append, rwP_len] at e
          rw [e]
          have := dDrop_len a lf y
          rw [hd] at this
          omega
        refine go_nil ⟨m, by omega, dDrop a lf y, vs ++ [y], p + 1, kI (valA a y), kI (j : Int), ?_, fun q hq => h1 q (dDrop_sub hq), ?_, ?_, ?_, by omega, by rw [List.append_assoc]; exact e1, h7⟩
        · exact congrArg (fun z => [kL a, kI (valA a y), Sl.own (.lst (rwP a (dDrop a lf y))), Sl.own (.lst z), kI ((p : Int) + 1), kI (j : Int), .no, .no, .no, .no]) (nums_snoc vs y)
        · have := dDrop_len a lf y; omega
        · have := dDrop_len a lf y; omega
        · rw [List.length_append, List.length_singleton]; omega
      · have hb2 := of_decide_eq_false hb2
        rw [hc1] at hb2
        have hd : dDrop a lf y = lf := by unfold dDrop; rw [if_neg (by omega)]
        rw [hd] at e1 h7
        refine go_nil ⟨m, by omega, lf, vs ++ [y], p + 1, kI (valA a y), x5, congrArg (fun z => [kL a, kI (valA a y), Sl.own (.lst (rwP a lf)), Sl.own (.lst z), kI ((p : Int) + 1), x5, .no, .no, .no, .no]) (nums_snoc vs y), h1, by omega, h3, (by rw [List.length_append, List.length_singleton]; omega), by omega, by rw [List.append_assoc]; exact e1, h7⟩
    · have hb := of_decide_eq_false hb
      rw [rwP_len] at hb
      rw [dwalk_done (by omega)] at h6 h7
      have h6 : vs ++ [] = (dW a).1 := h6
      have h7 : lf = (dW a).2 := h7
      rw [List.append_nil] at h6
      rw [← h6, ← h7]
      exact ⟨_, _, _, rfl⟩
  · obtain ⟨x1, x4, x5, rfl⟩ := h
    have hw := dW_ok a
    refine go_retG (evg_tup (avg_cons (evg_own 3) (avg_cons (evg_p (evp_fr (EV.to (ev_comp [("_law_value", 1), ("_law_place", 6)] hdF (ei_ls (ev_own 2)) (fun j d hd => ?_) (by rw [rwP_len]; omega)) (k' := .fr (.lst (nums (dlf a)))) (by rw [hdF_all]; rfl)))) avg_nil))) rfl
    obtain ⟨q, hq, rfl⟩ := rwP_at hd
    exact ⟨_, _, true, gt_tup (gts_cons (gt_name 1) (gts_cons (gt_name 6) gts_nil)), by decide, tvs_nil, fun _ => ⟨_, rfl, ev_val 1⟩, fun h => nomatch h⟩
/-- repeated -/
def itN {α : Type} (f : α → α) : Nat → α → α
  | 0, x => x
  | n + 1, x => f (itN f n x)
theorem itN_inv {α : Type} {f : α → α} {J : Nat → α → Prop} (hs : ∀ i x, J i x → J (i + 1) (f x)) : ∀ (n : Nat) (x : α), J 0 x → J n (itN f n x)
  | 0, _, h => h
  | n + 1, x, h => hs n _ (itN_inv hs n x h)
/-- what stands in the list of draws -/
structure Dr where
  a : Int
  n : Int
  b : Bool
abbrev Dr.ow (s : Dr) : Ow := .lst [.int s.a, .int s.n, .bool s.b]
def drV1 (a k : Int) : Int := ((a % 1000003 + k * k * 7919 + k) * 48271) % 2147483629
def drV2 (x : Int) : Int := (x * x) % 2147483587
def Dr.v (s : Dr) : Int := if s.b then s.a % 1000000 else ((drV2 (drV1 s.a (s.n + 1))) * (drV2 (drV1 s.a (s.n + 1)) + 2)) % 2147483579 / 7
def Dr.nx (s : Dr) : Dr := ⟨if s.b then s.a / 1000000 else s.a, s.n + 1, s.b⟩
/-- how many draws at most so far -/
def Dr.ok (s : Dr) (m : Nat) : Prop := 0 ≤ s.n ∧ s.n ≤ m
theorem Dr.ok.up {s : Dr} {m m' : Nat} (h : s.ok m) (hm : m ≤ m' := by omega) : s.ok m' := ⟨h.1, Int.le_trans h.2 (by exact_mod_cast hm)⟩
theorem Dr.ok.nx {s : Dr} {m : Nat} (h : s.ok m) : s.nx.ok (m + 1) := by
  obtain ⟨h1, h2⟩ := h
  refine ⟨?_, ?_⟩
  · show 0 ≤ s.n + 1; omega
  · show s.n + 1 ≤ ((m + 1 : Nat) : Int); omega
def bigN : Int := ((10 ^ (60 : Int).toNat) ^ (60 : Int).toNat) ^ (4 : Int).toNat
theorem bigN_pos : 0 < bigN := Int.pow_pos (Int.pow_pos (Int.pow_pos (by decide)))
theorem lt_pow_of {i : Int} {b m : Nat} (h : i.natAbs ≤ b) (hb : b < 2 ^ m) : i.natAbs < 2 ^ m := Nat.lt_of_le_of_lt h hb
/-- one argument is changed, the first -/
theorem hio_cons {o o' : Ow} {r : List Sl} (h : plainS r = true) : ∀ m : Nat, (Sl.io 0 o :: r)[m]? = some (.io 0 o) → (Sl.io 0 o' :: r)[m]? = some (.io 0 o')
  | 0, _ => rfl
  | m + 1, e => absurd (by simpa using e) (plain_io (cs := r) (i := m) h)
theorem ioin_cons {o' : Ow} {r sl : List Sl} (h : plainS r = true) (hs : sl[0]? = some (.io 0 o')) : IoIn (.io 0 o' :: r) sl := fun i j o e => by
  cases i with
  | zero => cases e; exact ⟨0, hs⟩
  | succ i => exact absurd (by simpa using e) (plain_io (cs := r) (i := i) h)
abbrev s_law_draws : Stmt := top 13
theorem sc_law_draws : FnScope ["_law_cell"] ["_law_cell"] (defScope s_law_draws) := ⟨rfl, rfl, rfl, by decide +kernel, rfl, by decide +kernel, by decide +kernel⟩
def sp_law_draws : Rel := Pure (α := Int) (fun _ => True) (fun a => [kI a]) (fun a => .fr (Dr.ow ⟨a % bigN, 0, decide ((10 : Int) ^ (18 : Int).toNat ≤ a)⟩))
abbrev D_law_draws (P : Program) (w : World) (K : PySem.W.Frag) (mg : Str → Option Value) (base : Heap) : Prop := DefOk P w K mg base "_law_draws" s_law_draws ["_law_cell"] 1 (Prm K mg sp_law_draws)
set_option linter.unusedVariables false in
theorem b_law_draws {P : Program} {w : World} {K : PySem.W.Frag} {mg : Str → Option Value} {base : Heap} (A : At K mg "_law_draws" s_law_draws ["_law_cell"]) (T : Free K mg)  : D_law_draws P w K mg base := by
  obtain ⟨f, fd, hm, F, hb⟩ := A
  refine ⟨f, fd, hm, F, hb, pure_fn F sc_law_draws (fun a => rfl) (fun a => rfl) (fun a => rfl) fun E B a ha => ?_⟩
  have nd : (["_law_cell"] : List Str).Nodup := sc_law_draws.nd
  have c1 : CPowW 10 60 := pow_ok 4 (by decide) (by decide) (by decide) (by decide)
  have c2 : CPowW (10 ^ (60 : Int).toNat) 60 := pow_ok (4 * 60) (natAbs_pow_lt 60 (by decide) (by decide)) (by decide) (by decide) (by decide)
  have c3 : CPowW ((10 ^ (60 : Int).toNat) ^ (60 : Int).toNat) 4 := pow_ok (4 * 60 * 60) (natAbs_pow_lt 60 (natAbs_pow_lt 60 (by decide) (by decide)) (by decide)) (by decide) (by decide) (by decide)
  have c4 : CPowW 10 18 := pow_ok 4 (by decide) (by decide) (by decide) (by decide)
  exact go_ret (ev_lst (av_cons (ev_mod (j := bigN) (ev_intI (ev_val 0) T.int) (ev_pow (ev_pow (ev_pow ev_int ev_int c1) ev_int c2) ev_int c3) bigN_pos) (av_cons ev_int (av_cons (cm_ge (ev_val 0) (ev_pow ev_int ev_int c4)).ev av_nil))) (.cons (.cons (.cons .nil)))) rfl
abbrev s_law_next : Stmt := top 14
theorem sc_law_next : FnScope ["_law_draws_here", "_law_k", "_law_number"] ["_law_draws_here"] (defScope s_law_next) := ⟨rfl, rfl, rfl, by decide +kernel, rfl, by decide +kernel, by decide +kernel⟩
def sp_law_next : Rel := Chg (α := Dr) (fun s => s.ok 1000000000) (fun s => [.io 0 s.ow]) (fun s => .st (.int s.v)) (fun s => [.io 0 s.nx.ow])
abbrev D_law_next (P : Program) (w : World) (K : PySem.W.Frag) (mg : Str → Option Value) (base : Heap) : Prop := DefOk P w K mg base "_law_next" s_law_next ["_law_draws_here"] 1 (Prm K mg sp_law_next)
set_option linter.unusedVariables false in
theorem b_law_next {P : Program} {w : World} {K : PySem.W.Frag} {mg : Str → Option Value} {base : Heap} (A : At K mg "_law_next" s_law_next ["_law_draws_here"]) (T : Free K mg)  : D_law_next P w K mg base := by
  obtain ⟨f, fd, hm, F, hb⟩ := A
  refine ⟨f, fd, hm, F, hb, chg_fn F sc_law_next (fun a => rfl) (fun a => .io .nil) (fun a => rfl) fun E B a ha => ?_⟩
  have nd : (["_law_draws_here", "_law_k", "_law_number"] : List Str).Nodup := sc_law_next.nd
  obtain ⟨x, n, b⟩ := a
  obtain ⟨h1, h2⟩ := ha
  have h1 : 0 ≤ n := h1
  have h2 : n ≤ 1000000000 := h2
  have c6 : CPowW 10 6 := pow_ok 4 (by decide) (by decide) (by decide) (by decide)
  refine go_setItem 0 (j := 1) (ev_add (ev_ix (ev_own 0) ev_int .ls rfl) ev_int) ev_int rfl ?_
  refine go_set 1 (ev_ix (ev_own 0) ev_int .ls rfl) ?_
  refine go_leave (tv_val (ev_ix (ev_own 0) ev_int .ls rfl)) (fun hb => ?_) fun hb => ?_
  · subst hb
    refine go_set 2 (ev_mod (ev_intI (ev_ix (ev_own 0) ev_int .ls rfl) T.int) (ev_pow ev_int ev_int c6) (by decide)) ?_
    refine go_setItem 0 (j := 0) (ev_div (ev_ix (ev_own 0) ev_int .ls rfl) (ev_pow ev_int ev_int c6) (by decide)) ev_int rfl ?_
    exact go_ret (ev_val 2) ⟨rfl, ioin_cons rfl rfl⟩
  · subst hb
    have k1 : CMulW (n + 1) (n + 1) := mul_ok 40 40 (by omega) (by omega)
    have hb0 : 0 ≤ (n + 1) * (n + 1) := Int.mul_nonneg (by omega) (by omega)
    have hb1 : (n + 1) * (n + 1) ≤ 1000000001 * 1000000001 := Int.mul_le_mul (by omega) (by omega) (by omega) (by decide)
    have k2 : CMulW ((n + 1) * (n + 1)) 7919 := mul_ok 80 20 (by omega) (by decide)
    have hm := Int.emod_nonneg x (show (1000003 : Int) ≠ 0 by decide)
    have hm2 := Int.emod_lt_of_pos x (show (0 : Int) < 1000003 by decide)
    have k3 : CMulW (x % 1000003 + (n + 1) * (n + 1) * 7919 + (n + 1)) 48271 := mul_ok 100 20 (by omega) (by decide)
    have g1 : 0 ≤ drV1 x (n + 1) := Int.emod_nonneg _ (by decide)
    have g2 : drV1 x (n + 1) < 2147483629 := Int.emod_lt_of_pos _ (by decide)
    have k4 : CMulW (drV1 x (n + 1)) (drV1 x (n + 1)) := mul_ok 40 40 (by omega) (by omega)
    have g3 : 0 ≤ drV2 (drV1 x (n + 1)) := Int.emod_nonneg _ (by decide)
    have g4 : drV2 (drV1 x (n + 1)) < 2147483587 := Int.emod_lt_of_pos _ (by decide)
    have k5 : CMulW (drV2 (drV1 x (n + 1))) (drV2 (drV1 x (n + 1)) + 2) := mul_ok 40 40 (by omega) (by omega)
    refine go_set 2 ((ev_mod (ev_intI (ev_mul (ev_add (ev_add (ev_mod (ev_intI (ev_ix (ev_own 0) ev_int .ls rfl) T.int) ev_int (by decide)) (ev_mul (ev_mul (ev_val 1) (ev_val 1) k1) ev_int k2)) (ev_val 1)) ev_int k3) T.int) ev_int (by decide)).to (k' := .st (.int (drV1 x (n + 1)))) rfl) ?_
    refine go_set 2 ((ev_mod (ev_intI (ev_mul (ev_val 2) (ev_val 2) k4) T.int) ev_int (by decide)).to (k' := .st (.int (drV2 (drV1 x (n + 1))))) rfl) ?_
    exact go_ret (ev_div (ev_mod (ev_intI (ev_mul (ev_val 2) (ev_add (ev_val 2) ev_int) k5) T.int) ev_int (by decide)) ev_int (by decide)) ⟨rfl, ioin_cons rfl rfl⟩
-- CUT
def pk5 (a b c d e k : Int) : Int := if k = 0 then a else if k = 1 then b else if k = 2 then c else if k = 3 then d else e
def pk3 (a b c k : Int) : Int := if k = 0 then a else if k = 1 then b else c
theorem pk5_at {a b c d e k : Int} (h : 0 ≤ k ∧ k < 5) : atI [PyData.int a, .int b, .int c, .int d, .int e] k = some (.int (pk5 a b c d e k)) := by
  have : k = 0 ∨ k = 1 ∨ k = 2 ∨ k = 3 ∨ k = 4 := by omega
  rcases this with rfl | rfl | rfl | rfl | rfl <;> rfl
theorem pk3_at {a b c k : Int} (h : 0 ≤ k ∧ k < 3) : atI [PyData.int a, .int b, .int c] k = some (.int (pk3 a b c k)) := by
  have : k = 0 ∨ k = 1 ∨ k = 2 := by omega
  rcases this with rfl | rfl | rfl <;> rfl
theorem md_bd (v q : Int) (h : 0 < q) : 0 ≤ v % q ∧ v % q < q := ⟨Int.emod_nonneg v (by omega), Int.emod_lt_of_pos v h⟩
/-- the values of doublets that are drawn -/
def dvStep (kn far : Int) (x : List Int × Dr) : List Int × Dr := (x.1 ++ [(x.2.v % kn - 1) * far], x.2.nx)
def dvKn (s : Dr) : Int := pk5 1 2 3 5 40 (s.v % 5)
def dvFar (s : Dr) : Int := pk3 1 1 (10 ^ (18 : Int).toNat) (s.nx.v % 3)
def dvMost (s : Dr) : Int := pk3 7 20 120 (s.nx.nx.v % 3)
def dvMany (s : Dr) : Nat := (s.nx.nx.nx.v % (dvMost s + 1)).toNat
def dvAll (s : Dr) : List Int × Dr := itN (dvStep (dvKn s) (dvFar s)) (dvMany s) ([], s.nx.nx.nx.nx)
theorem dvKn_bd (s : Dr) : 0 < dvKn s ∧ dvKn s ≤ 40 := by unfold dvKn pk5; (repeat' split) <;> decide
theorem dvFar_bd (s : Dr) : 0 ≤ dvFar s ∧ dvFar s ≤ 1000000000000000000 := by
  have : (10 : Int) ^ (18 : Int).toNat = 1000000000000000000 := by decide
  unfold dvFar pk3
  repeat' split
  all_goals first | decide | (rw [this]; decide)
theorem dvMost_bd (s : Dr) : 0 < dvMost s ∧ dvMost s ≤ 120 := by unfold dvMost pk3; (repeat' split) <;> decide
def okBig (xs : List Int) : Prop := ∀ x ∈ xs, x.natAbs ≤ 40000000000000000000
theorem dvIt {kn far : Int} (h1 : 0 < kn ∧ kn ≤ 40) (h2 : 0 ≤ far ∧ far ≤ 1000000000000000000) (s : Dr) (n i : Nat) (hs : s.ok n) : okBig (itN (dvStep kn far) i ([], s)).1 ∧ (itN (dvStep kn far) i ([], s)).1.length = i ∧ (itN (dvStep kn far) i ([], s)).2.ok (n + i) := by
  refine itN_inv (J := fun (i : Nat) (x : List Int × Dr) => okBig x.1 ∧ x.1.length = i ∧ x.2.ok (n + i)) (fun i x h => ?_) i _ ⟨by simp [okBig], rfl, hs⟩
  obtain ⟨q1, q2, q3⟩ := h
  refine ⟨fun y hy => ?_, by show (x.1 ++ [_]).length = _; rw [List.length_append, List.length_singleton, q2], q3.nx⟩
  rcases List.mem_append.mp hy with hy | hy
  · exact q1 y hy
  · rw [List.mem_singleton.mp hy]
    obtain ⟨b1, b2⟩ := md_bd x.2.v kn h1.1
    have c1 : (x.2.v % kn - 1) * far ≤ 39 * far := Int.mul_le_mul_of_nonneg_right (by omega) h2.1
    have c2 : -1 * far ≤ (x.2.v % kn - 1) * far := Int.mul_le_mul_of_nonneg_right (by omega) h2.1
    omega
theorem dvMany_le (s : Dr) : dvMany s ≤ 120 := by
  unfold dvMany
  obtain ⟨h1, h2⟩ := dvMost_bd s
  obtain ⟨b1, b2⟩ := md_bd s.nx.nx.nx.v (dvMost s + 1) (by omega)
  omega
theorem dvAll_ok (s : Dr) (n : Nat) (hs : s.ok n) : okBig (dvAll s).1 ∧ (dvAll s).1.length ≤ 120 ∧ (dvAll s).2.ok (n + 124) := by
  obtain ⟨h1, h2, h3⟩ := dvIt (dvKn_bd s) (dvFar_bd s) _ _ (dvMany s) hs.nx.nx.nx.nx
  have := dvMany_le s
  exact ⟨h1, by unfold dvAll; omega, h3.up⟩
abbrev s_law_values : Stmt := top 16
theorem sc_law_values : FnScope ["_law_draws_here", "_law_kinds", "_law_far", "_law_most", "_law_turn"] ["_law_draws_here"] (defScope s_law_values) := ⟨rfl, rfl, rfl, by decide +kernel, rfl, by decide +kernel, by decide +kernel⟩
def sp_law_values : Rel := Chg (α := Dr) (fun s => s.ok 800000000) (fun s => [.io 0 s.ow]) (fun s => .fr (.lst (nums (dvAll s).1))) (fun s => [.io 0 (dvAll s).2.ow])
abbrev D_law_values (P : Program) (w : World) (K : PySem.W.Frag) (mg : Str → Option Value) (base : Heap) : Prop := DefOk P w K mg base "_law_values" s_law_values ["_law_draws_here"] 2 (Prm K mg sp_law_values)
set_option linter.unusedVariables false in
theorem b_law_values {P : Program} {w : World} {K : PySem.W.Frag} {mg : Str → Option Value} {base : Heap} (A : At K mg "_law_values" s_law_values ["_law_draws_here"]) (T : Free K mg) (d_law_next : D_law_next P w K mg base) : D_law_values P w K mg base := by
  obtain ⟨f, fd, hm, F, hb⟩ := A
  refine ⟨f, fd, hm, F, hb, chg_fn F sc_law_values (fun a => rfl) (fun a => .io .nil) (fun a => rfl) fun E B a ha => ?_⟩
  have nd : (["_law_draws_here", "_law_kinds", "_law_far", "_law_most", "_law_turn"] : List Str).Nodup := sc_law_values.nd
  have hs : a.ok 800000000 := ha
  obtain ⟨k1, k2⟩ := dvKn_bd a
  obtain ⟨f1, f2⟩ := dvFar_bd a
  obtain ⟨m1, m2⟩ := dvMost_bd a
  have hm := dvMany_le a
  have mb := md_bd a.nx.nx.nx.v (dvMost a + 1) (by omega)
  have c4 : CPowW 10 18 := pow_ok 4 (by decide) (by decide) (by decide) (by decide)
  refine go_set 1 (EV.to (ev_ix (ev_lstN (avi_cons ev_int (avi_cons ev_int (avi_cons ev_int (avi_cons ev_int (avi_cons ev_int avi_nil)))))) (ev_mod (ev_intI (ev_callX 0 (a).nx.ow a d_law_next (av_cons (ev_at 0) av_nil) (.here .nil) hs.up (hio_cons rfl)) T.int) ev_int (by decide)) .fr (pk5_at (md_bd a.v 5 (by decide)))) (k' := .st (.int (dvKn a))) rfl) ?_
  refine go_set 2 (EV.to (ev_ix (ev_lstN (avi_cons ev_int (avi_cons ev_int (avi_cons (ev_pow ev_int ev_int c4) avi_nil)))) (ev_mod (ev_intI (ev_callX 0 (a.nx).nx.ow a.nx d_law_next (av_cons (ev_at 0) av_nil) (.here .nil) hs.nx.up (hio_cons rfl)) T.int) ev_int (by decide)) .fr (pk3_at (md_bd a.nx.v 3 (by decide)))) (k' := .st (.int (dvFar a))) rfl) ?_
  refine go_set 3 (EV.to (ev_ix (ev_lstN (avi_cons ev_int (avi_cons ev_int (avi_cons ev_int avi_nil)))) (ev_mod (ev_intI (ev_callX 0 (a.nx.nx).nx.ow a.nx.nx d_law_next (av_cons (ev_at 0) av_nil) (.here .nil) hs.nx.nx.up (hio_cons rfl)) T.int) ev_int (by decide)) .fr (pk3_at (md_bd a.nx.nx.v 3 (by decide)))) (k' := .st (.int (dvMost a))) rfl) ?_
  refine go_ret (ev_both (ev_compX [("_law_turn", 4)] (fun i => nums (itN (dvStep (dvKn a) (dvFar a)) i ([], a.nx.nx.nx.nx)).1) (fun i => [.io 0 (itN (dvStep (dvKn a) (dvFar a)) i ([], a.nx.nx.nx.nx)).2.ow, kI (dvKn a), kI (dvFar a), kI (dvMost a), .no])
    (ei_range1 (ev_mod (ev_intI (ev_callX 0 (a.nx.nx.nx).nx.ow a.nx.nx.nx d_law_next (av_cons (ev_at 0) av_nil) (.here .nil) hs.nx.nx.nx.up (hio_cons rfl)) T.int) (ev_add (ev_val 3) ev_int) (by omega)) (by omega) T.range) (fun i d hd => ?_) (by rw [upI_len]; show dvMany a ≤ _; omega)) (k' := .fr (.lst (nums (dvAll a).1))) (sl2 := [.io 0 (dvAll a).2.ow, kI (dvKn a), kI (dvFar a), kI (dvMost a), .no]) (by rw [upI_len]; rfl) (by rw [upI_len]; rfl)) ⟨rfl, ioin_cons rfl rfl⟩
  have hi : i < dvMany a := by
    have := (List.getElem?_eq_some_iff.mp hd).1
    rw [upI_len] at this
    exact this
  obtain ⟨q1, q2, q3⟩ := dvIt ⟨k1, k2⟩ ⟨f1, f2⟩ _ _ i hs.nx.nx.nx.nx
  show ∃ js s2 s3 s4 b q1 q2, _ ∧ _ ∧ _ ∧ _ ∧ _ ∧ (_ → ∃ d', nums (dvStep (dvKn a) (dvFar a) (itN _ i _)).1 = _ ∧ _ ∧ _ = [Sl.io 0 (dvStep (dvKn a) (dvFar a) (itN _ i _)).2.ow, _, _, _, _]) ∧ (_ → _)
  generalize itN (dvStep (dvKn a) (dvFar a)) i ([], a.nx.nx.nx.nx) = T1 at q1 q2 q3 ⊢
  obtain ⟨t, u⟩ := T1
  have q3 : u.ok (800000000 + 1 + 1 + 1 + 1 + i) := q3
  have ub := md_bd u.v (dvKn a) k1
  refine ⟨_, _, _, [Sl.io 0 u.nx.ow, kI (dvKn a), kI (dvFar a), kI (dvMost a), .val d], true, true, false, gt_name 4, by decide, rfl, rfl, tvx_nil, fun _ => ⟨.int ((u.v % dvKn a - 1) * dvFar a), (nums_snoc t _).symm, ?_, rfl⟩, fun h => nomatch h⟩
  have hmul : CMulW (u.v % dvKn a - 1) (dvFar a) := mul_ok 7 60 (by omega) (by omega)
  exact ev_sl (EV.im (ev_mul (ev_sub (ev_mod (ev_intI (ev_callX 0 (u).nx.ow u d_law_next (av_cons (ev_at 0) av_nil) (.here .nil) q3.up (hio_cons rfl)) T.int) (ev_val 1) k1) ev_int) (ev_val 2) hmul)) rfl
-- CUT
def okIx (d : PyData) : Prop := d = .none ∨ ∃ i : Nat, d = .int i ∧ i ≤ 1000
theorem rk_ix {d : PyData} (h : okIx d) : Rk 0 101 d := by
  rcases h with rfl | ⟨i, rfl, hi⟩
  · exact Rk.none.mono (by decide) (by decide)
  · exact Rk.int (Nat.lt_of_le_of_lt (show (i : Int).natAbs ≤ 1000 by omega) (by decide))
theorem okIx_n {i : Nat} (h : i ≤ 1000) : okIx (.int (i : Nat)) := .inr ⟨i, rfl, h⟩
abbrev s_law_kept : Stmt := top 17
theorem sc_law_kept : FnScope ["_law_ask", "_law_error", "caught"] ["_law_ask"] (defScope s_law_kept) := ⟨rfl, rfl, rfl, by decide +kernel, rfl, by decide +kernel, by decide +kernel⟩
def pre_law_kept : Out → Prop := fun u => ∃ d, u = .exn (xV d) ∧ okIx d
def res_law_kept : Out → PyData := fun u => match u with | .exn ⟨_, some (f, d)⟩ => .str d.shown | _ => .none
abbrev L_law_kept (P : Program) (w : World) (K : PySem.W.Frag) (mg : Str → Option Value) (base : Heap) : Prop := Tell P w K mg base "_law_kept" s_law_kept "_law_ask" 3 pre_law_kept res_law_kept
set_option linter.unusedVariables false in
theorem b_law_kept {P : Program} {w : World} {K : PySem.W.Frag} {mg : Str → Option Value} {base : Heap} (A : At K mg "_law_kept" s_law_kept ["_law_ask"]) (T : Free K mg)  : L_law_kept P w K mg base := by
  obtain ⟨f, fd, hm, F, hb⟩ := A
  refine tell_of hm F hb sc_law_kept rfl (by first | exact .inl rfl | exact .inr (.inl rfl)) fun B X0 g u hu G => ?_
  have nd : (["_law_ask", "_law_error", "caught"] : List Str).Nodup := sc_law_kept.nd
  obtain ⟨C, tV⟩ := T.cl
  obtain ⟨d, rfl, hd⟩ := hu
  refine go_set 1 ev_non ?_
  refine go_to (sl1 := [.raw (.ref g), .val (excD C (some ("index", d))), .no]) (g1_try 2 1 xt_name (catch1 tV) fun W => go_exprX (xv_ask (G.w W)) ⟨by simp [xV], rfl, rfl, fun C' hC => ?_⟩) ?_
  · have e2 := tV.x.gC.symm.trans hC
    cases e2
    rfl
  exact go_ret (ev_if (t := false) (tv_to (tv_or (cm_isN (ev_val 1)).tv fun _ => tv_not (tv_val (ev_isXT tV.i (ev_val 1) T.ValueError tV.kit_val T.isinstance))) rfl) (fun h => nomatch h) fun _ => ev_repr (ev_xget tV.g (ev_val 1)) T.repr ((rk_ix hd).mono (by decide) (Nat.le_refl 101))) rfl
/-- what is due of a list -/
def dueD (xs : List Int) : List PyData := [.list (nums (dlf xs)), .list (nums (dW xs).1), .bool (dRight xs)]
theorem okBig_sub {xs ys : List Int} (h : okBig xs) (hs : ∀ y ∈ ys, y ∈ xs) : okBig ys := fun y hy => h y (hs y hy)
theorem dlf_mem {xs : List Int} {y : Int} (h : y ∈ dlf xs) : y ∈ xs := by
  obtain ⟨p, hp, rfl⟩ := List.mem_map.mp h
  exact List.mem_of_getElem? (valA_at ((dW_ok xs).2.1 p hp))
theorem rk_big {xs : List Int} (h : okBig xs) {m : Nat} (hm : xs.length ≤ m) : Rk 1 (m * 103 + 3) (.list (nums xs)) := Rk.numL (fun x hx => Nat.lt_of_le_of_lt (h x hx) (by decide)) hm
theorem rk_due {xs : List Int} (h : okBig xs) (hl : xs.length ≤ 120) : Rk 50 100000 (.list (dueD xs)) := by
  obtain ⟨w1, w2, w3, w4⟩ := dW_ok xs
  refine (Rk.listN (b := 1) (n := 120 * 103 + 3) (m := 3) (fun d hd => ?_) (by simp [dueD])).mono (by decide) (by decide)
  simp only [dueD, List.mem_cons, List.not_mem_nil, or_false] at hd
  rcases hd with rfl | rfl | rfl
  · exact rk_big (okBig_sub h fun y hy => dlf_mem hy) (Nat.le_trans (dlf_len xs) hl)
  · exact Rk.numL (fun x hx => Nat.lt_of_le_of_lt (show x.natAbs ≤ 120 by have := w1 x hx; omega) (by decide)) (by omega)
  · exact Rk.bool.mono (by decide) (by decide)
theorem ce_due (xs : List Int) : Ce 2 (.list (dueD xs)) := Ce.list fun d hd => by
  simp only [dueD, List.mem_cons, List.not_mem_nil, or_false] at hd
  rcases hd with rfl | rfl | rfl
  · exact Ce.nums _
  · exact Ce.nums _
  · exact Ce.bool.mono (by decide)
theorem dRight_eq (xs : List Int) : decide (((dst (dlf xs)).length : Int) = ((nums (dlf xs)).length : Int)) = dRight xs := by
  rw [len_nums]
  unfold dRight
  exact decide_eq_decide.mpr Int.ofNat_inj
abbrev s_law_right : Stmt := top 18
theorem sc_law_right : FnScope ["_law_a_values", "_law_kept_here", "_law_stops", "_law_left", "_law_due", "_law_turn", "_law_told", "_law_first", "_law_second", "_law_third", "_law_named"] ["_law_a_values"] (defScope s_law_right) := ⟨rfl, rfl, rfl, by decide +kernel, rfl, by decide +kernel, by decide +kernel⟩
def sp_law_right : Rel := Pure (α := List Int) (fun a => okBig a ∧ a.length ≤ 120) (fun a => [kL a]) (fun a => .st (.bool true))
abbrev D_law_right (P : Program) (w : World) (K : PySem.W.Frag) (mg : Str → Option Value) (base : Heap) : Prop := DefOk P w K mg base "_law_right" s_law_right ["_law_a_values"] 4 (Prm K mg sp_law_right)
set_option linter.unusedVariables false in
theorem b_law_right {P : Program} {w : World} {K : PySem.W.Frag} {mg : Str → Option Value} {base : Heap} (A : At K mg "_law_right" s_law_right ["_law_a_values"]) (T : Free K mg) (d_after_doublet_pass : D_after_doublet_pass P w K mg base) (d_doublet_visits : D_doublet_visits P w K mg base) (d_comes_out_right : D_comes_out_right P w K mg base) (d_law_walked : D_law_walked P w K mg base) : D_law_right P w K mg base := by
  obtain ⟨f, fd, hm, F, hb⟩ := A
  refine ⟨f, fd, hm, F, hb, pure_fn F sc_law_right (fun a => rfl) (fun a => rfl) (fun a => rfl) fun E B a ha => ?_⟩
  have nd : (["_law_a_values", "_law_kept_here", "_law_stops", "_law_left", "_law_due", "_law_turn", "_law_told", "_law_first", "_law_second", "_law_third", "_law_named"] : List Str).Nodup := sc_law_right.nd
  have hb : okBig a := ha.1
  have hl : a.length ≤ 120 := ha.2
  have hl2 : a.length ≤ 1000 := by omega
  obtain ⟨w1, w2, w3, w4⟩ := dW_ok a
  have hdl := dlf_len a
  have g_after_doublet_pass := DefOk.good (β := List Int) (pre' := fun a => a.length ≤ 120) (args' := fun a => [kL a]) (res' := fun a => .fr (.lst (nums (dlf a)))) d_after_doublet_pass fun b h => ⟨.list (nums b), pln2_numsZ b, rfl, oneO_good h⟩
  have g_doublet_visits := DefOk.good (β := List Int) (pre' := fun a => a.length ≤ 120) (args' := fun a => [kL a]) (res' := fun a => .fr (.lst (nums (dW a).1))) d_doublet_visits fun b h => ⟨.list (nums b), pln2_numsZ b, rfl, oneO_good h⟩
  have g_comes_out_right := DefOk.good (β := List Int) (pre' := fun a => a.length ≤ 120) (args' := fun a => [kL a]) (res' := fun a => .st (.bool (dRight a))) d_comes_out_right fun b h => ⟨.list (nums b), pln2_numsZ b, rfl, oneO_good h⟩
  refine go_set 1 (ev_repr (ev_val 0) T.repr ((rk_big hb hl).mono (by decide) (Nat.le_refl _))) ?_
  refine go_unpG2 (t1 := .ls (nums (dW a).1)) (t2 := .ls (nums (dlf a))) 2 3 (evg_p (evp_callP a d_law_walked (av_cons (ev_val 0) av_nil) (.st .nil) hl2)) fun _ _ => ?_
  refine go_frz 2 ?_
  refine go_frz 3 ?_
  refine go_set 4 (EV.to (ev_lst (av_cons (ev_val 3) (av_cons (ev_val 2) (av_cons (CM.ev (cm_eqI (ev_lenSet (xs := dlf a) (ev_val 3) T.len T.set (by omega)) (ev_len (ds := nums (dlf a)) (ev_val 3) T.len))) av_nil))) (.cons (.cons (.cons .nil)))) (k' := .fr (.lst (dueD a))) (by rw [dRight_eq]; rfl)) ?_
  refine go_cons (M := fun sl => ∃ e5 e6 e7 e8 e9, sl = [kL a, .val (.str (PyData.list (nums a)).shown), kL (dW a).1, kL (dlf a), .own (.lst (dueD a)), e5, e6, e7, e8, e9, .no]) (g1_for (ei_range1 ev_int (by decide) T.range) (fun i sl => ∃ e5 e6 e7 e8 e9, sl = [kL a, .val (.str (PyData.list (nums a)).shown), kL (dW a).1, kL (dlf a), .own (.lst (dueD a)), e5, e6, e7, e8, e9, .no]) ⟨_, _, _, _, _, rfl⟩ (fun i d sl hd h => ?_) fun sl h => h) fun sl h => ?_
  · obtain ⟨e5, e6, e7, e8, e9, rfl⟩ := h
    refine ⟨_, _, gt_name 5, ?_⟩
    refine go_setP 6 (t := .lst [.ls (nums (dlf a)), .ls (nums (dW a).1), .st (.bool (dRight a))]) (evp_lst (avp_cons (evp_fr (ev_callP a g_after_doublet_pass (av_cons (ev_val 0) av_nil) (.st .nil) hl)) (avp_cons (evp_fr (ev_callP a g_doublet_visits (av_cons (ev_val 0) av_nil) (.st .nil) hl)) (avp_cons (evp_st (ev_callP a g_comes_out_right (av_cons (ev_val 0) av_nil) (.st .nil) hl)) avp_nil)))) fun fp => ?_
    refine go_skip (tv_or (cm_neS (ev_repr (d := .list (dueD a)) (ev_prv 6) T.repr (rk_due hb hl)) (ev_repr (d := .list (dueD a)) (ev_own 4) T.repr (rk_due hb hl))).tv fun _ => (cm_neS (ev_repr (ev_val 0) T.repr ((rk_big hb hl).mono (by decide) (Nat.le_refl _))) (ev_val 1)).tv) (by simp) ?_
    refine go_unpG3 (t1 := .ls (nums (dlf a))) (t2 := .ls (nums (dW a).1)) (t3 := .st (.bool (dRight a))) 7 8 9 (evg_m (evm_name 6)) fun _ _ _ => ?_
    refine go_append (ds := nums (dlf a)) 7 ev_non (hl := by rw [len_nums]; omega) ?_
    exact go_append (ds := nums (dW a).1) 8 ev_non (hl := by rw [len_nums]; omega) (go_nil ⟨_, _, _, _, _, rfl⟩)
  obtain ⟨e5, e6, e7, e8, e9, rfl⟩ := h
  refine go_set 10 (EV.to (ev_lst (av_cons (EV.fz (ev_callPk a g_after_doublet_pass kw_after_doublet_pass_values (kv_cons (ev_val 0) kv_nil) (.st .nil) hl)) (av_cons (EV.fz (ev_callPk a g_doublet_visits kw_doublet_visits_values (kv_cons (ev_val 0) kv_nil) (.st .nil) hl)) (av_cons (ev_callPk a g_comes_out_right kw_comes_out_right_values (kv_cons (ev_val 0) kv_nil) (.st .nil) hl) av_nil))) (.cons (.cons (.cons .nil)))) (k' := .fr (.lst (dueD a))) rfl) ?_
  refine go_ret (EV.to (ev_and (CM.ev (cm_eqD (d1 := .list (dueD a)) (d2 := .list (dueD a)) (ev_own 10) (ev_own 4) .ls .ls ((ce_due a).can (by decide)) ((ce_due a).can (by decide)))) fun _ => CM.ev (cm_eqS (ev_repr (ev_val 0) T.repr ((rk_big hb hl).mono (by decide) (Nat.le_refl _))) (ev_val 1))) (k' := .st (.bool true)) ?_) rfl
  rw [(ce_due a).self]; simp
-- CUT
def wrT : List PyData := [.none, .bool true, .bool false, .str "1", .list (nums [1]), .tuple [.int 1], .dict []]
def wrA (xs : List Int) : List PyData := ([.none, .tuple [], .str "", .str "11", .dict [], .int 5, .tuple (nums xs), .list (nums (List.replicate 121 0)), .list (List.replicate 121 [PyData.none]).flatten] : List PyData).map fun d => .tuple [d, .none]
def wrB (a : List Int) (t : Nat) (d : PyData) : PyData := .tuple [.list ((nums (a.take t) ++ [d, .none]) ++ nums (a.drop t)), .int (t : Nat)]
def pairN (d : PyData) : Option PyData := some (.tuple [d, .none])
theorem wrT_ok {d : PyData} (h : d ∈ wrT) : wholeD d = false ∧ plnD d = true ∧ Rw 1 200 d := by
  simp only [wrT, List.mem_cons, List.not_mem_nil, or_false] at h
  rcases h with rfl | rfl | rfl | rfl | rfl | rfl | rfl
  · exact ⟨rfl, rfl, (Rk.none.mono (by decide) (by decide)).w⟩
  · exact ⟨rfl, rfl, (Rk.bool.mono (by decide) (by decide)).w⟩
  · exact ⟨rfl, rfl, (Rk.bool.mono (by decide) (by decide)).w⟩
  · exact ⟨rfl, rfl, by decide +kernel, by decide +kernel, by decide +kernel, by decide +kernel⟩
  · exact ⟨rfl, rfl, by decide +kernel, by decide +kernel, by decide +kernel, by decide +kernel⟩
  · exact ⟨rfl, rfl, by decide +kernel, by decide +kernel, by decide +kernel, by decide +kernel⟩
  · exact ⟨rfl, rfl, Rw.dict0.mono (by decide) (by decide)⟩
theorem okBad (xs : List Int) (h : okBig xs) (hl : xs.length ≤ 120) {d : PyData} (hd : d ∈ wrA xs) : ∃ b ix, d = .tuple [b, ix] ∧ pln2 b = true ∧ refV b = some (xV ix) ∧ okIx ix ∧ Rw 50 100000 b := by
  obtain ⟨t, ht, rfl⟩ := List.mem_map.mp hd
  refine ⟨t, .none, rfl, ?_⟩
  simp only [List.mem_cons, List.not_mem_nil, or_false] at ht
  rcases ht with rfl | rfl | rfl | rfl | rfl | rfl | rfl | rfl | rfl
  · exact ⟨rfl, rfl, .inl rfl, (Rk.none.mono (by decide) (by decide)).w⟩
  · exact ⟨rfl, rfl, .inl rfl, by decide +kernel, by decide +kernel, by decide +kernel, by decide +kernel⟩
  · exact ⟨rfl, rfl, .inl rfl, by decide +kernel, by decide +kernel, by decide +kernel, by decide +kernel⟩
  · exact ⟨rfl, rfl, .inl rfl, by decide +kernel, by decide +kernel, by decide +kernel, by decide +kernel⟩
  · exact ⟨rfl, rfl, .inl rfl, Rw.dict0.mono (by decide) (by decide)⟩
  · exact ⟨rfl, rfl, .inl rfl, by decide +kernel, by decide +kernel, by decide +kernel, by decide +kernel⟩
  · refine ⟨rfl, rfl, .inl rfl, (Rw.tupleN (b := 0) (n := 101) (m := 120) (fun d hd => ?_) (by rw [len_nums]; exact hl)).mono (by decide) (by decide)⟩
    obtain ⟨x, hx, rfl⟩ := nums_mem hd
    exact (Rk.int (Nat.lt_of_le_of_lt (h x hx) (by decide))).w
  · exact ⟨by decide +kernel, by rw [refV_l, if_pos (by rw [len_nums, List.length_replicate]; decide)], .inl rfl, ((rk_big (m := 121) (fun x hx => by rw [List.eq_of_mem_replicate hx]; decide) (by rw [List.length_replicate]; decide)).mono (by decide) (by decide)).w⟩
  · refine ⟨by decide +kernel, by rw [refV_l, if_pos (by decide +kernel)], .inl rfl, (Rw.listN (b := 0) (n := 5) (m := 121) (fun d hd => ?_) (by decide +kernel)).mono (by decide) (by decide)⟩
    obtain ⟨l, hl, hd⟩ := List.mem_flatten.mp hd
    rw [List.eq_of_mem_replicate hl] at hd
    rw [List.mem_singleton.mp hd]
    exact Rk.none.w
theorem okBadB (a : List Int) (h : okBig a) (hl : a.length ≤ 100) {t : Nat} (htl : t ≤ a.length) {e : PyData} (he : e ∈ wrT) : ∃ b ix, wrB a t e = .tuple [b, ix] ∧ pln2 b = true ∧ refV b = some (xV ix) ∧ okIx ix ∧ Rw 50 100000 b := by
  obtain ⟨h1, h2, h3⟩ := wrT_ok he
  have hlen : ((nums (a.take t) ++ [e, .none]) ++ nums (a.drop t)).length = a.length + 2 := by
    simp only [List.length_append, len_nums, List.length_take, List.length_drop, List.length_cons, List.length_nil]; omega
  refine ⟨_, _, rfl, ?_, ?_, okIx_n (by omega), (Rw.listN (b := 1) (n := 200) (m := 102) (fun d hd => ?_) (by omega)).mono (by decide) (by decide)⟩
  · refine List.all_eq_true.mpr fun d hd => ?_
    rcases List.mem_append.mp hd with hd | hd
    · rcases List.mem_append.mp hd with hd | hd
      · obtain ⟨x, _, rfl⟩ := nums_mem hd; rfl
      · rcases List.mem_cons.mp hd with rfl | hd
        · exact h2
        · rw [List.mem_singleton.mp hd]; rfl
    · obtain ⟨x, _, rfl⟩ := nums_mem hd; rfl
  · have e1 : (a.take t).length = t := by rw [List.length_take]; omega
    rw [refV_l, if_neg (by rw [hlen]; omega), List.append_assoc, badV_nums, e1, Nat.zero_add]
    show Option.map _ (if wholeD e = true then _ else some t) = _
    rw [h1, if_neg Bool.false_ne_true]; rfl
  · have hn : ∀ x ∈ a, Rw 1 200 (.int x) := fun x hx => ((Rk.int (Nat.lt_of_le_of_lt (h x hx) (by decide))).mono (by decide) (by decide)).w
    rcases List.mem_append.mp hd with hd | hd
    · rcases List.mem_append.mp hd with hd | hd
      · obtain ⟨x, hx, rfl⟩ := nums_mem hd; exact hn x (List.mem_of_mem_take hx)
      · rcases List.mem_cons.mp hd with rfl | hd
        · exact h3
        · rw [List.mem_singleton.mp hd]; exact (Rk.none.mono (by decide) (by decide)).w
    · obtain ⟨x, hx, rfl⟩ := nums_mem hd; exact hn x (List.mem_of_mem_drop hx)
def wrL (xs : List Int) (t i : Nat) : List PyData := wrA xs ++ (wrT.take i).map (wrB (xs.take 100) t)
theorem wrL_len (xs : List Int) (t i : Nat) (h : i ≤ 7) : (wrL xs t i).length ≤ 20 := by
  unfold wrL
  simp only [List.length_append, List.length_map, List.length_take]
  have : (wrA xs).length = 9 := rfl
  omega
abbrev s_law_refusals_right : Stmt := top 19
theorem sc_law_refusals_right : FnScope ["_law_draws_here", "_law_a_values", "_law_some", "_law_thing", "_law_wrong", "_law_at", "_law_index", "_law_before", "_law_ask", "_law_bad"] ["_law_draws_here", "_law_a_values"] (defScope s_law_refusals_right) := ⟨rfl, rfl, rfl, by decide +kernel, rfl, by decide +kernel, by decide +kernel⟩
def sp_law_refusals_right : Rel := Chg (α := Dr × List Int) (fun a => a.1.ok 900000000 ∧ okBig a.2 ∧ a.2.length ≤ 120) (fun a => [.io 0 a.1.ow, kL a.2]) (fun _ => .st (.bool true)) (fun a => [.io 0 a.1.nx.ow, kL a.2])
abbrev D_law_refusals_right (P : Program) (w : World) (K : PySem.W.Frag) (mg : Str → Option Value) (base : Heap) : Prop := DefOk P w K mg base "_law_refusals_right" s_law_refusals_right ["_law_draws_here", "_law_a_values"] 6 (Prm K mg sp_law_refusals_right)
set_option linter.unusedVariables false in
theorem b_law_refusals_right {P : Program} {w : World} {K : PySem.W.Frag} {mg : Str → Option Value} {base : Heap} (A : AtL K mg base "_law_refusals_right" s_law_refusals_right ["_law_draws_here", "_law_a_values"]) (T : Free K mg) (d_after_doublet_pass : D_after_doublet_pass P w K mg base) (d_doublet_visits : D_doublet_visits P w K mg base) (d_comes_out_right : D_comes_out_right P w K mg base) (d_law_next : D_law_next P w K mg base) (d_law_kept : L_law_kept P w K mg base) : D_law_refusals_right P w K mg base := by
  obtain ⟨f, fd, hm, F, hb, hTab⟩ := A
  refine ⟨f, fd, hm, F, hb, chg_fn F sc_law_refusals_right (fun a => rfl) (fun a => .io (.val .nil)) (fun a => rfl) fun E B a ha => ?_⟩
  have nd : (["_law_draws_here", "_law_a_values", "_law_some", "_law_thing", "_law_wrong", "_law_at", "_law_index", "_law_before", "_law_ask", "_law_bad"] : List Str).Nodup := sc_law_refusals_right.nd
  obtain ⟨s, xs⟩ := a
  obtain ⟨hs, hb, hl⟩ := ha
  have hs : s.ok 900000000 := hs
  have hb : okBig xs := hb
  have hl : xs.length ≤ 120 := hl
  obtain ⟨f1, hm1, F1⟩ := d_after_doublet_pass.fnv
  obtain ⟨f2, hm2, F2⟩ := d_doublet_visits.fnv
  obtain ⟨f3, hm3, F3⟩ := d_comes_out_right.fnv
  have hF : ∀ d ∈ [rawD f1, rawD f2, rawD f3], ∃ f, d = rawD f ∧ ∀ (b ix : PyData), pln2 b = true → refV b = some (xV ix) → FnV P w K mg base 3 f (Prm K mg (EndAt [.val b] (.exn (xV ix)))) := fun d hd => by
    simp only [List.mem_cons, List.not_mem_nil, or_false] at hd
    rcases hd with rfl | rfl | rfl
    · exact ⟨f1, rfl, fun b ix h1 h2 => (F1.at b h1 rfl (oneO_bad h2)).mono (by decide)⟩
    · exact ⟨f2, rfl, fun b ix h1 h2 => (F2.at b h1 rfl (oneO_bad h2)).mono (by decide)⟩
    · exact ⟨f3, rfl, fun b ix h1 h2 => (F3.at b h1 rfl (oneO_bad h2)).mono (by decide)⟩
  have hl1 : (xs.take 100).length ≤ 100 := by rw [List.length_take]; omega
  refine go_fix 2 (ev_sliceToN (n := 100) (ev_val 1) ev_int) ?_
  refine go_setC 4 [("_law_thing", 3)] pairN (ei_ls (ev_lst (av_cons ev_non (av_cons (ev_tup av_nil .nil) (av_cons ev_str (av_cons ev_str (av_cons ev_dict0 (av_cons ev_int (av_cons (ev_tupOf (ev_val 1) T.tuple) (av_cons (EV.fz (ev_rep1 (n := 121) (ev_lstN (avi_cons ev_int avi_nil)) ev_int (by decide))) (av_cons (EV.fz (ev_rep (ev_lst (av_cons ev_non av_nil) (.cons .nil)) ev_int (by decide) (Nat.le_of_ble_eq_true rfl))) av_nil))))))))) (.cons (.cons (.cons (.cons (.cons (.cons (.cons (.cons (.cons .nil))))))))))) (fun j d hd => ?_) (Nat.le_of_ble_eq_true rfl) (es := wrA xs) rfl ?_
  · exact ⟨_, _, true, gt_name 3, by decide, tvs_nil, fun _ => ⟨_, rfl, ev_tup (av_cons (ev_val 3) (av_cons ev_non av_nil)) (.cons (.cons .nil))⟩, fun h => nomatch h⟩
  have hmA := Int.emod_nonneg s.v (show ((nums (xs.take 100)).length : Int) + 1 ≠ 0 by omega)
  have hmB := Int.emod_lt_of_pos s.v (show 0 < ((nums (xs.take 100)).length : Int) + 1 by omega)
  obtain ⟨t, ht⟩ := Int.eq_ofNat_of_zero_le hmA
  rw [ht, len_nums] at hmB
  have htl : t ≤ (xs.take 100).length := by omega
  refine go_set 5 (EV.to (ev_mod (ev_intI (ev_callX 0 (s).nx.ow s d_law_next (av_cons (ev_at 0) av_nil) (.here .nil) hs.up (hio_cons rfl)) T.int) (ev_add (ev_len (ds := nums (xs.take 100)) (ev_val 2) T.len) ev_int) (by omega)) (k' := .st (.int (t : Int))) (by rw [ht])) ?_
  refine go_cons (M := fun sl => ∃ e3, sl = [.io 0 s.nx.ow, kL xs, kL (xs.take 100), e3, .own (.lst (wrL xs t 7)), kI t, .no, .no, .no, .no]) (g1_for (ds := wrT) (ei_list (EV.fz (ev_lst (av_cons ev_non (av_cons ev_bl (av_cons ev_bl (av_cons ev_str (av_cons (EV.fz (ev_lstN (avi_cons ev_int avi_nil))) (av_cons (ev_tup (av_cons ev_int av_nil) (.cons .nil)) (av_cons ev_dict0 av_nil))))))) (.cons (.cons (.cons (.cons (.cons (.cons (.cons .nil))))))))))
    (fun i sl => ∃ e3, sl = [.io 0 s.nx.ow, kL xs, kL (xs.take 100), e3, .own (.lst (wrL xs t i)), kI t, .no, .no, .no, .no]) ⟨.no, by unfold wrL; rw [List.take_zero, List.map_nil, List.append_nil]; rfl⟩ (fun i d sl hd h => ?_) fun sl h => h) fun sl h => ?_
  · obtain ⟨e3, rfl⟩ := h
    have hi : i < 7 := (List.getElem?_eq_some_iff.mp hd).1
    refine ⟨_, _, gt_name 3, ?_⟩
    refine go_append 4 (ev_tup (av_cons (EV.fz (ev_cat (ev_cat (ev_sliceToN (n := t) (ev_val 2) (ev_val 5)) (ev_lst (av_cons (ev_val 3) (av_cons ev_non av_nil)) (.cons (.cons .nil))) (hz := by rw [len_nums, List.length_take]; show _ + 2 ≤ _; omega)) (ev_sliceFromN (n := t) (ev_val 2) (ev_val 5)) (hz := by rw [List.length_append, len_nums, len_nums, List.length_take, List.length_drop]; show _ + 2 + _ ≤ _; omega))) (av_cons (ev_val 5) av_nil)) (.cons (.cons .nil))) (hl := by have := wrL_len xs t i (by omega); omega) (go_nil ⟨.val d, ?_⟩)
    show [_, _, _, _, Sl.own (.lst (wrL xs t i ++ [wrB (xs.take 100) t d])), _, _, _, _, _] = _
    have e : wrT.take (i + 1) = wrT.take i ++ [d] := by rw [List.take_add_one, hd]; rfl
    unfold wrL
    rw [e, List.map_append, List.append_assoc]; rfl
  obtain ⟨e3, rfl⟩ := h
  refine go_frz 4 ?_
  have hall : ∀ d ∈ wrL xs t 7, ∃ b ix, d = .tuple [b, ix] ∧ pln2 b = true ∧ refV b = some (xV ix) ∧ okIx ix ∧ Rw 50 100000 b := fun d hd => by
    rcases List.mem_append.mp hd with hd | hd
    · exact okBad xs hb hl hd
    · obtain ⟨e, he, rfl⟩ := List.mem_map.mp hd
      exact okBadB _ (okBig_sub hb fun y hy => List.mem_of_mem_take hy) hl1 htl (List.mem_of_mem_take he)
  refine go_cons (M := fun sl => ∃ e6 e7 e8 e9, sl = [.io 0 s.nx.ow, kL xs, kL (xs.take 100), e3, .val (.list (wrL xs t 7)), kI t, e6, e7, e8, e9]) (g1_for (ei_list (ev_val 4))
    (fun i sl => ∃ e6 e7 e8 e9, sl = [.io 0 s.nx.ow, kL xs, kL (xs.take 100), e3, .val (.list (wrL xs t 7)), kI t, e6, e7, e8, e9]) ⟨_, _, _, _, rfl⟩ (fun i d sl hd h => ?_) fun sl h => h) fun sl h => ?_
  · obtain ⟨e6, e7, e8, e9, rfl⟩ := h
    obtain ⟨b, ix, rfl, p1, p2, p3, p4⟩ := hall d (List.mem_of_getElem? hd)
    refine ⟨_, _, gt_tup (gts_cons (gt_name 9) (gts_cons (gt_name 6) gts_nil)), ?_⟩
    refine go_set 7 (ev_reprD (ev_val 9) T.repr p4) ?_
    refine go_last (g1_for (ds := [rawD f1, rawD f2, rawD f3]) (ei_list (EV.fz (ev_lst (av_cons (ev_fnD hm1) (av_cons (ev_fnD hm2) (av_cons (ev_fnD hm3) av_nil))) (.cons (.cons (.cons .nil)))))) (fun i sl => ∃ e8, sl = [.io 0 s.nx.ow, kL xs, kL (xs.take 100), e3, .val (.list (wrL xs t 7)), kI t, .val ix, .val (.str b.shown), e8, .val b]) ⟨_, rfl⟩ (fun i d sl hd h => ?_) fun sl h => ?_)
    · obtain ⟨e8, rfl⟩ := h
      obtain ⟨f, rfl, Fv⟩ := hF d (List.mem_of_getElem? hd)
      refine ⟨_, _, gt_name 8, ?_⟩
      exact go_skip (tv_or (cm_neS (ev_tell (.exn (xV ix)) d_law_kept ⟨ix, rfl, p3⟩ (fun k h => nomatch h) hTab fun E X0 => lamB_exn (xv_callV 8 (Fv b ix p1 p2) (av_cons (ev_val 9) av_nil) (.st .nil) ⟨rfl, rfl, rfl⟩)) (ev_repr (ev_val 6) T.repr ((rk_ix p3).mono (by decide) (Nat.le_refl 101)))).tv fun _ => (cm_neS (ev_reprD (ev_val 9) T.repr p4) (ev_val 7)).tv) (by show (!decide (ix.shown = ix.shown) || !decide (b.shown = b.shown)) = false; simp) (go_nil ⟨_, rfl⟩)
    · obtain ⟨e8, rfl⟩ := h
      exact ⟨_, _, _, _, rfl⟩
  obtain ⟨e6, e7, e8, e9, rfl⟩ := h
  exact go_ret ev_bl ⟨rfl, ioin_cons rfl rfl⟩
-- CUT
def drO : PyData → Ow
  | .int c => Dr.ow ⟨c % bigN, 0, decide ((10 : Int) ^ (18 : Int).toNat ≤ c)⟩
  | _ => .lst []
theorem dr0_ok (c : Int) : (⟨c % bigN, 0, decide ((10 : Int) ^ (18 : Int).toNat ≤ c)⟩ : Dr).ok 0 := ⟨Int.le_refl 0, Int.le_refl 0⟩
theorem drO_at {xs : List Int} {i : Nat} {o : Ow} (h : ((nums xs).map drO)[i]? = some o) : ∃ w : Dr, o = w.ow ∧ w.ok 0 := by
  rw [List.getElem?_map] at h
  obtain ⟨d, hd, rfl⟩ := Option.map_eq_some_iff.mp h
  obtain ⟨v, hv, rfl⟩ := nums_get hd
  exact ⟨_, rfl, dr0_ok v⟩
theorem draws_hz (a : List Int) (n : Nat) (h : n ≤ 100) : (nums (a.take n)).length + [PyData.int 0].length ≤ 1000000 := by
  rw [len_nums, List.length_take]; simp; omega
theorem draws_eq (a : List Int) (n : Nat) : Kd.fr (.lst (nums (a.take n) ++ [.int 0])) = .fr (.lst (nums (a.take n ++ [0]))) := by rw [← nums_app]; rfl
theorem draws_hl (a : List Int) (n : Nat) (h : n ≤ 100) : (nums (a.take n ++ [0])).length ≤ 1000000 := by
  rw [len_nums, List.length_append, List.length_take]; simp; omega
abbrev s_law : Stmt := top 20
theorem sc_law : FnScope ["_law_script", "_law_draws_here", "_law_turn", "_law_a_values", "_law_cell"] ["_law_script"] (defScope s_law) := ⟨rfl, rfl, rfl, by decide +kernel, rfl, by decide +kernel, by decide +kernel⟩
def sp_law : Rel := Pure (α := List Int) (fun a => a.length ≤ 63) (fun a => [kL a]) (fun a => .st (.bool true))
abbrev D_law (P : Program) (w : World) (K : PySem.W.Frag) (mg : Str → Option Value) (base : Heap) : Prop := DefOk P w K mg base "law" s_law ["_law_script"] 7 (Prm K mg sp_law)
set_option linter.unusedVariables false in
theorem b_law {P : Program} {w : World} {K : PySem.W.Frag} {mg : Str → Option Value} {base : Heap} (A : At K mg "law" s_law ["_law_script"]) (T : Free K mg) (d_law_draws : D_law_draws P w K mg base) (d_law_values : D_law_values P w K mg base) (d_law_right : D_law_right P w K mg base) (d_law_refusals_right : D_law_refusals_right P w K mg base) : D_law P w K mg base := by
  obtain ⟨f, fd, hm, F, hb⟩ := A
  refine ⟨f, fd, hm, F, hb, pure_fn F sc_law (fun a => rfl) (fun a => rfl) (fun a => rfl) fun E B a ha => ?_⟩
  have nd : (["_law_script", "_law_draws_here", "_law_turn", "_law_a_values", "_law_cell"] : List Str).Nodup := sc_law.nd
  have ha : a.length ≤ 63 := ha
  refine go_cons (M := fun sl => ∃ e1 e2 e3, sl = [kL a, e1, e2, e3, .no]) (g1_forN 1 (nv_comp [("_law_cell", 4)] drO (ei_ls (ds := nums (a.take 6 ++ [0])) (EV.to (ev_cat (ev_sliceToN (n := 6) (ev_val 0) ev_int) (ev_lst (av_cons ev_int av_nil) (.cons .nil)) (hz := draws_hz a 6 (by decide))) (k' := .fr (.lst (nums (a.take 6 ++ [0])))) (draws_eq a 6))) (fun j d hd => by obtain ⟨v, hv, rfl⟩ := nums_get hd; exact ⟨_, _, gt_name 4, by decide, tvs_nil, ev_callP (v : Int) d_law_draws (av_cons (ev_val 4) av_nil) (.st .nil) trivial⟩) (draws_hl a 6 (by decide))) (fun i sl => ∃ e1 e2 e3, sl = [kL a, e1, e2, e3, .no]) (by first | exact ⟨_, rfl⟩ | exact ⟨_, _, rfl⟩ | exact ⟨_, _, _, rfl⟩ | exact ⟨_, _, _, _, rfl⟩ | exact ⟨_, _, _, _, _, rfl⟩ | exact ⟨_, _, _, _, _, _, rfl⟩ | exact ⟨_, _, _, _, _, _, _, rfl⟩ | exact ⟨_, _, _, _, _, _, _, _, rfl⟩ | exact ⟨_, _, _, _, _, _, _, _, _, rfl⟩ | exact ⟨_, _, _, _, _, _, _, _, _, _, rfl⟩ | exact ⟨_, _, _, _, _, _, _, _, _, _, _, rfl⟩ | exact ⟨_, _, _, _, _, _, _, _, _, _, _, _, rfl⟩ | exact ⟨_, _, _, _, _, _, _, _, _, _, _, _, _, rfl⟩) (fun B' i o sl ho h => ?_) fun s h => h) fun sl h => ?_
  · obtain ⟨e1, e2, e3, rfl⟩ := h
    obtain ⟨w0, rfl, h0⟩ := drO_at ho
    refine ⟨rfl, ?_⟩
    refine go_cons (M := fun sl => ∃ (u : Dr) (e2 : Sl) (xs : List Int), sl = [kL a, .own u.ow, e2, kL xs, .no] ∧ u.ok 1000 ∧ okBig xs ∧ xs.length ≤ 120) (g1_for (ei_range1 ev_int (by decide) T.range)
      (fun i sl => ∃ (u : Dr) (e2 e3 : Sl), sl = [kL a, .own u.ow, e2, e3, .no] ∧ u.ok (124 * i) ∧ (i = 0 ∨ ∃ xs : List Int, e3 = kL xs ∧ okBig xs ∧ xs.length ≤ 120)) ⟨_, _, _, rfl, h0.up, .inl rfl⟩ (fun i d sl hd h => ?_) fun sl h => ?_) fun sl h => ?_
    · obtain ⟨u, e2, e3, rfl, hu, _⟩ := h
      obtain ⟨hi, rfl⟩ := upI_at hd
      have hi : i < 6 := hi
      refine ⟨_, _, gt_name 2, ?_⟩
      obtain ⟨v1, v2, v3⟩ := dvAll_ok u _ hu
      refine go_fix 3 (ev_callX 1 (dvAll u).2.ow u d_law_values (av_cons (ev_at 1) av_nil) (.here .nil) hu.up (hio_cons rfl)) ?_
      exact go_skip (tv_not (tv_val (ev_callP ((dvAll u).1) d_law_right (av_cons (ev_val 3) av_nil) (.st .nil) (⟨v1, v2⟩)))) (by rfl) (go_nil ⟨_, _, _, rfl, v3.up, .inr ⟨_, rfl, v1, v2⟩⟩)
    · obtain ⟨u, e2, e3, rfl, hu, h⟩ := h
      rcases h with h | ⟨xs, rfl, q1, q2⟩
      · cases h
      · exact ⟨_, _, _, rfl, Dr.ok.up (m := 124 * 6) hu, q1, q2⟩
    · obtain ⟨u, e2, xs, rfl, hu, q1, q2⟩ := h
      exact go_skip (tv_not (tv_val (ev_callX 1 u.nx.ow (u, xs) d_law_refusals_right (av_cons (ev_at 1) (av_cons (ev_val 3) av_nil)) (.here (.st .nil)) ⟨hu.up, q1, q2⟩ (hio_cons rfl)))) (by rfl) (go_nil ⟨_, _, _, rfl⟩)
  obtain ⟨e1, e2, e3, rfl⟩ := h
  refine go_ret (ev_andG (t := true) (u := true) (ev_callP (List.replicate 120 3) d_law_right (av_cons (EV.fz (ev_rep1 (n := 120) (ev_lstN (avi_cons ev_int avi_nil)) ev_int (by decide))) av_nil) (.st .nil) (⟨fun x hx => by rw [List.eq_of_mem_replicate hx]; decide, by rw [List.length_replicate]; decide⟩)) (fun _ => ev_andG (t := true) (u := true) (ev_callP (upZ 120) d_law_right (av_cons (EV.fz (EV.to (ev_listRg ev_int T.list T.range (by decide)) (k' := .fr (.lst (nums (upZ 120)))) (by rw [← upI_upZ]; rfl))) av_nil) (.st .nil) (⟨fun x hx => by have := mem_upZ.mp hx; omega, by rw [upZ_len]; decide⟩)) (fun _ => ev_andG (t := true) (u := true) (ev_callP ([]) d_law_right (av_cons (EV.fz (ev_lst av_nil .nil)) av_nil) (.st .nil) (⟨(fun x hx => nomatch hx), by decide⟩)) (fun _ => ev_one (ev_callP ([1, 1]) d_law_right (av_cons (EV.fz (ev_lstN (avi_cons ev_int (avi_cons ev_int avi_nil)))) av_nil) (.st .nil) (⟨by unfold okBig; decide, by decide⟩))) fun h => nomatch h) fun h => nomatch h) fun h => nomatch h) rfl
theorem all_mk {l : PySem.W.OpenLaw} {w : World} {K : PySem.W.Frag} {h : Heap} {mg : Str → Option Value} {fa : Addr} (X : K.In h) (G : h.Ns mainGlobals mg) (hfa : mg "law" = some (.ref fa))
    {f0 : Addr} {od0 an0 : Option Addr} {sl0 : Array (Option Value)} {oc0 kV0 dc0 pm0 cd0 ct0 : Value}
    (a0 : PySem.W.nsIn K mainGlobals "is_whole" = some (some (.ref f0))) (l0 : K.lookup f0 = some ⟨oc0, od0, .func (PySem.W.fnOf "is_whole" "is_whole" (defArgs s_is_whole) (defBody s_is_whole) (defScope s_is_whole) .none kV0 dc0 pm0 an0 cd0 ct0), sl0⟩) (c0 : PySem.W.codeIn K cd0 "is_whole" = true) (k0 : PySem.W.keepIn K (.ref f0) = true)
    {f1 : Addr} {od1 an1 : Option Addr} {sl1 : Array (Option Value)} {oc1 kV1 dc1 pm1 cd1 ct1 : Value}
    (a1 : PySem.W.nsIn K mainGlobals "check_values" = some (some (.ref f1))) (l1 : K.lookup f1 = some ⟨oc1, od1, .func (PySem.W.fnOf "check_values" "check_values" (defArgs s_check_values) (defBody s_check_values) (defScope s_check_values) .none kV1 dc1 pm1 an1 cd1 ct1), sl1⟩) (c1 : PySem.W.codeIn K cd1 "check_values" = true) (k1 : PySem.W.keepIn K (.ref f1) = true)
    {f2 : Addr} {od2 an2 : Option Addr} {sl2 : Array (Option Value)} {oc2 kV2 dc2 pm2 cd2 ct2 : Value}
    (a2 : PySem.W.nsIn K mainGlobals "walk_of" = some (some (.ref f2))) (l2 : K.lookup f2 = some ⟨oc2, od2, .func (PySem.W.fnOf "walk_of" "walk_of" (defArgs s_walk_of) (defBody s_walk_of) (defScope s_walk_of) .none kV2 dc2 pm2 an2 cd2 ct2), sl2⟩) (c2 : PySem.W.codeIn K cd2 "walk_of" = true) (k2 : PySem.W.keepIn K (.ref f2) = true)
    {f3 : Addr} {od3 an3 : Option Addr} {sl3 : Array (Option Value)} {oc3 kV3 dc3 pm3 cd3 ct3 : Value}
    (a3 : PySem.W.nsIn K mainGlobals "is_right" = some (some (.ref f3))) (l3 : K.lookup f3 = some ⟨oc3, od3, .func (PySem.W.fnOf "is_right" "is_right" (defArgs s_is_right) (defBody s_is_right) (defScope s_is_right) .none kV3 dc3 pm3 an3 cd3 ct3), sl3⟩) (c3 : PySem.W.codeIn K cd3 "is_right" = true) (k3 : PySem.W.keepIn K (.ref f3) = true)
    {f4 : Addr} {od4 an4 : Option Addr} {sl4 : Array (Option Value)} {oc4 kV4 dc4 pm4 cd4 ct4 : Value}
    (a4 : PySem.W.nsIn K mainGlobals "after_doublet_pass" = some (some (.ref f4))) (l4 : K.lookup f4 = some ⟨oc4, od4, .func (PySem.W.fnOf "after_doublet_pass" "after_doublet_pass" (defArgs s_after_doublet_pass) (defBody s_after_doublet_pass) (defScope s_after_doublet_pass) .none kV4 dc4 pm4 an4 cd4 ct4), sl4⟩) (c4 : PySem.W.codeIn K cd4 "after_doublet_pass" = true) (k4 : PySem.W.keepIn K (.ref f4) = true)
    {f5 : Addr} {od5 an5 : Option Addr} {sl5 : Array (Option Value)} {oc5 kV5 dc5 pm5 cd5 ct5 : Value}
    (a5 : PySem.W.nsIn K mainGlobals "doublet_visits" = some (some (.ref f5))) (l5 : K.lookup f5 = some ⟨oc5, od5, .func (PySem.W.fnOf "doublet_visits" "doublet_visits" (defArgs s_doublet_visits) (defBody s_doublet_visits) (defScope s_doublet_visits) .none kV5 dc5 pm5 an5 cd5 ct5), sl5⟩) (c5 : PySem.W.codeIn K cd5 "doublet_visits" = true) (k5 : PySem.W.keepIn K (.ref f5) = true)
    {f6 : Addr} {od6 an6 : Option Addr} {sl6 : Array (Option Value)} {oc6 kV6 dc6 pm6 cd6 ct6 : Value}
    (a6 : PySem.W.nsIn K mainGlobals "comes_out_right" = some (some (.ref f6))) (l6 : K.lookup f6 = some ⟨oc6, od6, .func (PySem.W.fnOf "comes_out_right" "comes_out_right" (defArgs s_comes_out_right) (defBody s_comes_out_right) (defScope s_comes_out_right) .none kV6 dc6 pm6 an6 cd6 ct6), sl6⟩) (c6 : PySem.W.codeIn K cd6 "comes_out_right" = true) (k6 : PySem.W.keepIn K (.ref f6) = true)
    {f7 : Addr} {od7 an7 : Option Addr} {sl7 : Array (Option Value)} {oc7 kV7 dc7 pm7 cd7 ct7 : Value}
    (a7 : PySem.W.nsIn K mainGlobals "_law_walked" = some (some (.ref f7))) (l7 : K.lookup f7 = some ⟨oc7, od7, .func (PySem.W.fnOf "_law_walked" "_law_walked" (defArgs s_law_walked) (defBody s_law_walked) (defScope s_law_walked) .none kV7 dc7 pm7 an7 cd7 ct7), sl7⟩) (c7 : PySem.W.codeIn K cd7 "_law_walked" = true) (k7 : PySem.W.keepIn K (.ref f7) = true)
    {f8 : Addr} {od8 an8 : Option Addr} {sl8 : Array (Option Value)} {oc8 kV8 dc8 pm8 cd8 ct8 : Value}
    (a8 : PySem.W.nsIn K mainGlobals "_law_draws" = some (some (.ref f8))) (l8 : K.lookup f8 = some ⟨oc8, od8, .func (PySem.W.fnOf "_law_draws" "_law_draws" (defArgs s_law_draws) (defBody s_law_draws) (defScope s_law_draws) .none kV8 dc8 pm8 an8 cd8 ct8), sl8⟩) (c8 : PySem.W.codeIn K cd8 "_law_draws" = true) (k8 : PySem.W.keepIn K (.ref f8) = true)
    {f9 : Addr} {od9 an9 : Option Addr} {sl9 : Array (Option Value)} {oc9 kV9 dc9 pm9 cd9 ct9 : Value}
    (a9 : PySem.W.nsIn K mainGlobals "_law_next" = some (some (.ref f9))) (l9 : K.lookup f9 = some ⟨oc9, od9, .func (PySem.W.fnOf "_law_next" "_law_next" (defArgs s_law_next) (defBody s_law_next) (defScope s_law_next) .none kV9 dc9 pm9 an9 cd9 ct9), sl9⟩) (c9 : PySem.W.codeIn K cd9 "_law_next" = true) (k9 : PySem.W.keepIn K (.ref f9) = true)
    {f10 : Addr} {od10 an10 : Option Addr} {sl10 : Array (Option Value)} {oc10 kV10 dc10 pm10 cd10 ct10 : Value}
    (a10 : PySem.W.nsIn K mainGlobals "_law_values" = some (some (.ref f10))) (l10 : K.lookup f10 = some ⟨oc10, od10, .func (PySem.W.fnOf "_law_values" "_law_values" (defArgs s_law_values) (defBody s_law_values) (defScope s_law_values) .none kV10 dc10 pm10 an10 cd10 ct10), sl10⟩) (c10 : PySem.W.codeIn K cd10 "_law_values" = true) (k10 : PySem.W.keepIn K (.ref f10) = true)
    {f11 : Addr} {od11 an11 : Option Addr} {sl11 : Array (Option Value)} {oc11 kV11 dc11 pm11 cd11 ct11 : Value}
    (a11 : PySem.W.nsIn K mainGlobals "_law_kept" = some (some (.ref f11))) (l11 : K.lookup f11 = some ⟨oc11, od11, .func (PySem.W.fnOf "_law_kept" "_law_kept" (defArgs s_law_kept) (defBody s_law_kept) (defScope s_law_kept) .none kV11 dc11 pm11 an11 cd11 ct11), sl11⟩) (c11 : PySem.W.codeIn K cd11 "_law_kept" = true) (k11 : PySem.W.keepIn K (.ref f11) = true)
    {f12 : Addr} {od12 an12 : Option Addr} {sl12 : Array (Option Value)} {oc12 kV12 dc12 pm12 cd12 ct12 : Value}
    (a12 : PySem.W.nsIn K mainGlobals "_law_right" = some (some (.ref f12))) (l12 : K.lookup f12 = some ⟨oc12, od12, .func (PySem.W.fnOf "_law_right" "_law_right" (defArgs s_law_right) (defBody s_law_right) (defScope s_law_right) .none kV12 dc12 pm12 an12 cd12 ct12), sl12⟩) (c12 : PySem.W.codeIn K cd12 "_law_right" = true) (k12 : PySem.W.keepIn K (.ref f12) = true)
    {tc13 tP13 : Addr} (tm13 : (tP13, (("_law_refusals_right" : Str) ++ (".<locals>." : Str) ++ ("<lambda>" : Str) : Str)) ∈ Tb.T) (tu13 : ∀ p ∈ Tb.T, p.1 = tP13 → p.2 = (("_law_refusals_right" : Str) ++ (".<locals>." : Str) ++ ("<lambda>" : Str) : Str))
    {f13 : Addr} {od13 an13 : Option Addr} {sl13 : Array (Option Value)} {oc13 kV13 dc13 pm13 ct13 : Value}
    (a13 : PySem.W.nsIn K mainGlobals "_law_refusals_right" = some (some (.ref f13))) (l13 : K.lookup f13 = some ⟨oc13, od13, .func (PySem.W.fnOf "_law_refusals_right" "_law_refusals_right" (defArgs s_law_refusals_right) (defBody s_law_refusals_right) (defScope s_law_refusals_right) .none kV13 dc13 pm13 an13 (.ref tc13) ct13), sl13⟩) (c13 : PySem.W.codeIn K (.ref tc13) "_law_refusals_right" = true) (k13 : PySem.W.keepIn K (.ref f13) = true)
    {f14 : Addr} {od14 an14 : Option Addr} {sl14 : Array (Option Value)} {oc14 kV14 dc14 pm14 cd14 ct14 : Value}
    (a14 : PySem.W.nsIn K mainGlobals "law" = some (some (.ref f14))) (l14 : K.lookup f14 = some ⟨oc14, od14, .func (PySem.W.fnOf "law" "law" (defArgs s_law) (defBody s_law) (defScope s_law) .none kV14 dc14 pm14 an14 cd14 ct14), sl14⟩) (c14 : PySem.W.codeIn K cd14 "law" = true) (k14 : PySem.W.keepIn K (.ref f14) = true)
    (z0 : PySem.W.nsIn K mainGlobals "ValueError" = some none)
    (z1 : PySem.W.nsIn K mainGlobals "bool" = some none)
    (z2 : PySem.W.nsIn K mainGlobals "enumerate" = some none)
    (z3 : PySem.W.nsIn K mainGlobals "int" = some none)
    (z4 : PySem.W.nsIn K mainGlobals "isinstance" = some none)
    (z5 : PySem.W.nsIn K mainGlobals "len" = some none)
    (z6 : PySem.W.nsIn K mainGlobals "list" = some none)
    (z7 : PySem.W.nsIn K mainGlobals "range" = some none)
    (z8 : PySem.W.nsIn K mainGlobals "repr" = some none)
    (z9 : PySem.W.nsIn K mainGlobals "set" = some none)
    (z10 : PySem.W.nsIn K mainGlobals "tuple" = some none)
    {t0 : Tok} (y0 : PySem.W.nsIn K mainGlobals "MOST_VALUES" = some (some (.int 120 t0)))
    {xC0 xf0 xN0 : Addr} {xnm0 xq0 : Str} {xbs0 : List Value} {xsn0 : List Str} {xsub0 : List Value} {xab0 : Bool} {xcol0 : Option Bool} {xdd0 : Option Addr} {xm00 xm10 xm20 xm30 xm50 : Option Value} {xod0 xan0 : Option Addr} {xsl0 : Array (Option Value)} {xoc0 xdc0 xpm0 xcd0 xct0 : Value}
    (ga0 : PySem.W.nsIn K mainGlobals "InvalidValues" = some (some (.ref xC0))) (gb0 : K.lookup xC0 = some (excClassObj xnm0 xq0 xC0 xN0 xbs0 [.type "ValueError", .type "Exception", .type "BaseException", .type "object"] true xsn0 xsub0 xab0 xcol0 xdd0 xm00 xm10 xm20 xm30 xm50 "ValueError.__new__")) (gc0 : PySem.W.findIn K (.ref xC0) "__setattr__" = some (some (.builtin "object.__setattr__"))) (gd0 : PySem.W.findIn K (.ref xC0) "__getattribute__" = some (some (.builtin "BaseException.__getattribute__"))) (ge0 : PySem.W.findIn K (.ref xC0) "__getattr__" = some none) (gf0 : PySem.W.findIn K (.ref xC0) "index" = some none) (gg0 : PySem.W.findIn K (.ref xC0) "__class__" = some (some (.builtin "object.__class__"))) (gh0 : PySem.W.specialIn K (.builtin "object.__class__") "__get__" = some (some (.builtin "getset_descriptor.__get__"))) (gi0 : PySem.W.takesIn K (.builtin "object.__class__") = some true) (gj0 : PySem.W.findIn K (.ref xC0) "__init__" = some (some (.ref xf0))) (gk0 : PySem.W.typeIn K (.ref xf0) = some (.type "function")) (gl0 : K.lookup xf0 = some ⟨xoc0, xod0, .func (PySem.W.fnOf "__init__" "InvalidValues.__init__" (xiA "index" ⟨4, 17, 4, 21⟩ ⟨4, 23, 4, 28⟩) (xiB "index" ⟨5, 8, 5, 12⟩ ⟨5, 8, 5, 18⟩ ⟨5, 21, 5, 26⟩ ⟨5, 8, 5, 26⟩) (xiS "index") .none .none xdc0 xpm0 xan0 xcd0 xct0), xsl0⟩) (gm0 : PySem.W.codeIn K xcd0 "InvalidValues.__init__" = true) (gn0 : PySem.W.keepIn K (.ref xC0) = true) (go0 : PySem.W.subIn K (.ref xC0) (.type "BaseException") = some true) (gp0 : PySem.W.typeIn K (.ref xC0) = some (.type "type")) (gq0 : PySem.W.hasDictIn K xC0 = true) (gr0 : PySem.W.isClsIn K xC0 = true) (gs0 : PySem.W.subIn K (.ref xC0) (.ref xC0) = some true) (gt0 : PySem.W.mroIn K xC0 (.type "object") = some true) (gu0 : PySem.W.subIn K (.ref xC0) (.type "ValueError") = some true) :
    ∃ fd : FuncData, (∀ (s : Shared) (v : Value), BindsTo s fd ⟨[v], []⟩ [("_law_script", v)]) ∧ ∀ base : Heap, K.In base → base.Ns mainGlobals mg → (∀ t ∈ ([("_law_refusals_right", tc13, tP13)] : List (Str × Addr × Addr)), LamX.TabB base mg t.2.1 t.2.2) → FnG l.prog w K mg base 7 fa fd ["_law_script"] (Prm K mg (lawR 63)) := by
  have e := hfa.symm.trans (PySem.W.mg_of X G a14)
  cases e
  have T : Free K mg := ⟨PySem.W.mg_none_of X G z0, PySem.W.mg_none_of X G z1, PySem.W.mg_none_of X G z2, PySem.W.mg_none_of X G z3, PySem.W.mg_none_of X G z4, PySem.W.mg_none_of X G z5, PySem.W.mg_none_of X G z6, PySem.W.mg_none_of X G z7, PySem.W.mg_none_of X G z8, PySem.W.mg_none_of X G z9, PySem.W.mg_none_of X G z10, ⟨_, PySem.W.mg_of X G y0⟩, ⟨xC0, cls_mk (PySem.W.mg_of X G ga0) gb0 gc0 gd0 ge0 gf0 gg0 gh0 gi0 gj0 gk0 gl0 gm0 gn0 go0 gp0 gq0 gr0 gs0 gt0 gu0⟩⟩
  have F0 := fun_mk (st := s_is_whole) l0 c0 k0
  have A0 : At K mg "is_whole" s_is_whole ["thing"] := ⟨_, _, PySem.W.mg_of X G a0, F0, F0.binds fun _ _ _ _ _ _ us hl => match us, hl with | [_], _ => rfl⟩
  have F1 := fun_mk (st := s_check_values) l1 c1 k1
  have A1 : At K mg "check_values" s_check_values ["values"] := ⟨_, _, PySem.W.mg_of X G a1, F1, F1.binds fun _ _ _ _ _ _ us hl => match us, hl with | [_], _ => rfl⟩
  have F2 := fun_mk (st := s_walk_of) l2 c2 k2
  have A2 : At K mg "walk_of" s_walk_of ["values"] := ⟨_, _, PySem.W.mg_of X G a2, F2, F2.binds fun _ _ _ _ _ _ us hl => match us, hl with | [_], _ => rfl⟩
  have F3 := fun_mk (st := s_is_right) l3 c3 k3
  have A3 : At K mg "is_right" s_is_right ["values"] := ⟨_, _, PySem.W.mg_of X G a3, F3, F3.binds fun _ _ _ _ _ _ us hl => match us, hl with | [_], _ => rfl⟩
  have F4 := fun_mk (st := s_after_doublet_pass) l4 c4 k4
  have A4 : At K mg "after_doublet_pass" s_after_doublet_pass ["values"] := ⟨_, _, PySem.W.mg_of X G a4, F4, F4.binds fun _ _ _ _ _ _ us hl => match us, hl with | [_], _ => rfl⟩
  have F5 := fun_mk (st := s_doublet_visits) l5 c5 k5
  have A5 : At K mg "doublet_visits" s_doublet_visits ["values"] := ⟨_, _, PySem.W.mg_of X G a5, F5, F5.binds fun _ _ _ _ _ _ us hl => match us, hl with | [_], _ => rfl⟩
  have F6 := fun_mk (st := s_comes_out_right) l6 c6 k6
  have A6 : At K mg "comes_out_right" s_comes_out_right ["values"] := ⟨_, _, PySem.W.mg_of X G a6, F6, F6.binds fun _ _ _ _ _ _ us hl => match us, hl with | [_], _ => rfl⟩
  have F7 := fun_mk (st := s_law_walked) l7 c7 k7
  have A7 : At K mg "_law_walked" s_law_walked ["_law_a_values"] := ⟨_, _, PySem.W.mg_of X G a7, F7, F7.binds fun _ _ _ _ _ _ us hl => match us, hl with | [_], _ => rfl⟩
  have F8 := fun_mk (st := s_law_draws) l8 c8 k8
  have A8 : At K mg "_law_draws" s_law_draws ["_law_cell"] := ⟨_, _, PySem.W.mg_of X G a8, F8, F8.binds fun _ _ _ _ _ _ us hl => match us, hl with | [_], _ => rfl⟩
  have F9 := fun_mk (st := s_law_next) l9 c9 k9
  have A9 : At K mg "_law_next" s_law_next ["_law_draws_here"] := ⟨_, _, PySem.W.mg_of X G a9, F9, F9.binds fun _ _ _ _ _ _ us hl => match us, hl with | [_], _ => rfl⟩
  have F10 := fun_mk (st := s_law_values) l10 c10 k10
  have A10 : At K mg "_law_values" s_law_values ["_law_draws_here"] := ⟨_, _, PySem.W.mg_of X G a10, F10, F10.binds fun _ _ _ _ _ _ us hl => match us, hl with | [_], _ => rfl⟩
  have F11 := fun_mk (st := s_law_kept) l11 c11 k11
  have A11 : At K mg "_law_kept" s_law_kept ["_law_ask"] := ⟨_, _, PySem.W.mg_of X G a11, F11, F11.binds fun _ _ _ _ _ _ us hl => match us, hl with | [_], _ => rfl⟩
  have F12 := fun_mk (st := s_law_right) l12 c12 k12
  have A12 : At K mg "_law_right" s_law_right ["_law_a_values"] := ⟨_, _, PySem.W.mg_of X G a12, F12, F12.binds fun _ _ _ _ _ _ us hl => match us, hl with | [_], _ => rfl⟩
  have F13 := fun_mk (st := s_law_refusals_right) l13 c13 k13
  have F14 := fun_mk (st := s_law) l14 c14 k14
  refine ⟨PySem.W.fnOf "law" "law" (defArgs s_law) (defBody s_law) (defScope s_law) .none kV14 dc14 pm14 an14 cd14 ct14, fun s v => .of_eq rfl, fun base _ _ hTB => ?_⟩
  have A13 : AtL K mg base "_law_refusals_right" s_law_refusals_right ["_law_draws_here", "_law_a_values"] := ⟨_, _, PySem.W.mg_of X G a13, F13, F13.binds fun _ _ _ _ _ _ us hl => match us, hl with | [_, _], _ => rfl, tabOf_mk tm13 tu13 (hTB ("_law_refusals_right", tc13, tP13) (by simp))⟩
  have d0 : D_is_whole l.prog w K mg base := b_is_whole A0 T 
  have d1 : D_check_values l.prog w K mg base := b_check_values A1 T d0
  have d2 : D_walk_of l.prog w K mg base := b_walk_of A2 T 
  have d3 : D_is_right l.prog w K mg base := b_is_right A3 T d2
  have d4 : D_after_doublet_pass l.prog w K mg base := b_after_doublet_pass A4 T d1 d2
  have d5 : D_doublet_visits l.prog w K mg base := b_doublet_visits A5 T d1 d2
  have d6 : D_comes_out_right l.prog w K mg base := b_comes_out_right A6 T d1 d3
  have d7 : D_law_walked l.prog w K mg base := b_law_walked A7 T 
  have d8 : D_law_draws l.prog w K mg base := b_law_draws A8 T 
  have d9 : D_law_next l.prog w K mg base := b_law_next A9 T 
  have d10 : D_law_values l.prog w K mg base := b_law_values A10 T d9
  have d11 : L_law_kept l.prog w K mg base := b_law_kept A11 T 
  have d12 : D_law_right l.prog w K mg base := b_law_right A12 T d4 d5 d6 d7
  have d13 : D_law_refusals_right l.prog w K mg base := b_law_refusals_right A13 T d4 d5 d6 d9 d11
  have d14 : D_law l.prog w K mg base := b_law ⟨_, _, PySem.W.mg_of X G a14, F14, F14.binds fun _ _ _ _ _ _ us hl => match us, hl with | [_], _ => rfl⟩ T d8 d10 d12 d13
  obtain ⟨f, fd, hm, hF, hb, G2⟩ := d14
  have e2 := hm.symm.trans (PySem.W.mg_of X G a14)
  cases e2
  obtain ⟨oc, od, kV, doc, pm, an, cdv, ct, osl, rfl, lk, hcd⟩ := hF.ex
  have e3 := lk.symm.trans l14
  cases e3
  refine G2.imp fun vs H Q E h => ?_
  obtain ⟨S, ls, cs, k, cs', ⟨ns, rfl, hn, rfl, rfl⟩, I, q⟩ := h
  exact ⟨S, ls, _, _, _, ⟨ns, hn, rfl, rfl, rfl⟩, I, q⟩
end Mw
open PySem PySem.W PyProof.Rows
set_option maxHeartbeats 0 in
theorem PySem.Challenge.cw_midwalk_k50_doublet_passes_holds : PySem.Challenge.rw_midwalk_k50_doublet_passes.Holds := by
  w_on; o_law; k_head; (case hw => w_witness2)
  k_fill
  letI : Mw.Tb := ⟨[(117, (("_law_refusals_right" : Str) ++ (".<locals>." : Str) ++ ("<lambda>" : Str) : Str))]⟩
  refine Mw.walkT [("_law_refusals_right", 119, 117)] rfl (l := PySem.Challenge.rw_midwalk_k50_doublet_passes) (n := 63) (k := 7) (x := "_law_script") rfl (by decide) rfl ⟨rfl, by decide, by decide⟩ (fun w h Y => PySem.W.km_in_of Y) (fun t ht => by
    simp only [List.mem_cons, List.not_mem_nil, or_false] at ht
    subst ht
    all_goals exact ⟨_, rfl⟩) (fun w => fun t ht => by
    simp only [List.mem_cons, List.not_mem_nil, or_false] at ht
    subst ht
    all_goals kernel_rfl) (fun w => fun t ht => by
    simp only [List.mem_cons, List.not_mem_nil, or_false] at ht
    subst ht
    all_goals kernel_rfl) (fun w => by kernel_rfl) (by kernel_rfl) ?F
  case F =>
    intro w mg fa h KX G hmg
    refine' Mw.all_mk KX G hmg ?a0 ?l0 ?c0 ?k0 ?a1 ?l1 ?c1 ?k1 ?a2 ?l2 ?c2 ?k2 ?a3 ?l3 ?c3 ?k3 ?a4 ?l4 ?c4 ?k4 ?a5 ?l5 ?c5 ?k5 ?a6 ?l6 ?c6 ?k6 ?a7 ?l7 ?c7 ?k7 ?a8 ?l8 ?c8 ?k8 ?a9 ?l9 ?c9 ?k9 ?a10 ?l10 ?c10 ?k10 ?a11 ?l11 ?c11 ?k11 ?a12 ?l12 ?c12 ?k12 ?tm13 ?tu13 ?a13 ?l13 ?c13 ?k13 ?a14 ?l14 ?c14 ?k14 ?z0 ?z1 ?z2 ?z3 ?z4 ?z5 ?z6 ?z7 ?z8 ?z9 ?z10 ?y0 ?ga0 ?gb0 ?gc0 ?gd0 ?ge0 ?gf0 ?gg0 ?gh0 ?gi0 ?gj0 ?gk0 ?gl0 ?gm0 ?gn0 ?go0 ?gp0 ?gq0 ?gr0 ?gs0 ?gt0 ?gu0
    (case a0 => k_is); (case l0 => k_is); (case c0 => k_is); (case k0 => k_is); (case a1 => k_is); (case l1 => k_is); (case c1 => k_is); (case k1 => k_is); (case a2 => k_is); (case l2 => k_is); (case c2 => k_is); (case k2 => k_is); (case a3 => k_is); (case l3 => k_is); (case c3 => k_is); (case k3 => k_is); (case a4 => k_is); (case l4 => k_is); (case c4 => k_is); (case k4 => k_is); (case a5 => k_is); (case l5 => k_is); (case c5 => k_is); (case k5 => k_is); (case a6 => k_is); (case l6 => k_is); (case c6 => k_is); (case k6 => k_is); (case a7 => k_is); (case l7 => k_is); (case c7 => k_is); (case k7 => k_is); (case a8 => k_is); (case l8 => k_is); (case c8 => k_is); (case k8 => k_is); (case a9 => k_is); (case l9 => k_is); (case c9 => k_is); (case k9 => k_is); (case a10 => k_is); (case l10 => k_is); (case c10 => k_is); (case k10 => k_is); (case a11 => k_is); (case l11 => k_is); (case c11 => k_is); (case k11 => k_is); (case a12 => k_is); (case l12 => k_is); (case c12 => k_is); (case k12 => k_is); (case a13 => k_is); (case l13 => k_is); (case c13 => k_is); (case k13 => k_is); (case a14 => k_is); (case l14 => k_is); (case c14 => k_is); (case k14 => k_is); (case z0 => k_is); (case z1 => k_is); (case z2 => k_is); (case z3 => k_is); (case z4 => k_is); (case z5 => k_is); (case z6 => k_is); (case z7 => k_is); (case z8 => k_is); (case z9 => k_is); (case z10 => k_is); (case y0 => k_is); (case ga0 => k_is); (case gb0 => k_is); (case gc0 => k_is); (case gd0 => k_is); (case ge0 => k_is); (case gf0 => k_is); (case gg0 => k_is); (case gh0 => k_is); (case gi0 => k_is); (case gj0 => k_is); (case gk0 => k_is); (case gl0 => k_is); (case gm0 => k_is); (case gn0 => k_is); (case go0 => k_is); (case gp0 => k_is); (case gq0 => k_is); (case gr0 => k_is); (case gs0 => k_is); (case gt0 => k_is); (case gu0 => k_is)
    (case tm13 => exact List.Mem.head _); (case tu13 => intro p hp e; change p ∈ ([((117 : Addr), (("_law_refusals_right" : Str) ++ (".<locals>." : Str) ++ ("<lambda>" : Str) : Str))] : List (Addr × Str)) at hp; simp only [List.mem_cons, List.not_mem_nil, or_false] at hp; rcases hp with rfl <;> first | rfl | exact absurd e (by decide))

import PyProof.Rows.All
import Wide.All
import OpenK.AllK
import Wide.FinOn
import HandS.ForMost
import HandS.Exc
import HandS.TryOnly
import HandS.TryMany
import HandS.WordsExc
import HandS.Flow
import HandS.Style
import HandS.Wide
import HandS.SortInts
import HandS.Lambda
import HandS.ExcInit
import HandS.ExcField
import HandS.ExcIs
import PyProof.ReprRoads
import HandS.SetFor
import HandS.Iter
import HandS.IsInst
import HandS.Defaults
import PyProof.ListNew
import PyProof.EnumMake
import HandS.ExcValue
import HandS.Conv
import HandS.More
import KE.KExcIs
import HandS.TupAny
import HandS.EndTab
import PyProof.SumWalkG
import HandS.NoneIn
import HandS.Strs
import HandS.ListItems
import KE.KDictWalk
import HandS.Text
import KE.IntTextLaws
import KE.KDictPairs
import PySem.Challenge.RW_midwalk_k65_lists_and_dicts_as_texts
set_option Elab.async false
set_option linter.all false
set_option maxRecDepth 100000
set_option maxHeartbeats 4000000
set_option autoImplicit false
/-! MwA: data as trees over the tracked heap; what a frame knows; what an expression, a test, an argument list gives. -/
namespace Mw
open PySem PySem.Spec L2

/-- the tables of code objects that lambdas are made by -/
class Tb where
  T : List (Addr × Str)
/-- what is never written by a store -/
def Hard (o : HO) : Prop := (∃ ps, o = .tbl ps) ∨ ∃ f, o = .ext f
/-- all that stood stands; a table of code objects may have grown -/
structure Sam (H H' : Hp) : Prop where
  st : ∀ b o, H b = some o → (∀ ps, o ≠ .tbl ps) → H' b = some o
  tb : ∀ b ps, H b = some (.tbl ps) → ∃ ps', H' b = some (.tbl ps')
theorem same_sam {H H' : Hp} (h : Same H H') : Sam H H' := ⟨fun b o e _ => h b o e, fun b ps e => ⟨ps, h b _ e⟩⟩
theorem Sam.refl (H : Hp) : Sam H H := same_sam (.refl H)
theorem Sam.trans {H H1 H2 : Hp} (a : Sam H H1) (b : Sam H1 H2) : Sam H H2 := ⟨fun c o e n => b.st c o (a.st c o e n) n, fun c ps e => by
  obtain ⟨q, e1⟩ := a.tb c ps e
  exact b.tb c q e1⟩
theorem Sam.dom {H H' : Hp} (a : Sam H H') {b : Addr} {o : HO} (e : H b = some o) : ∃ o', H' b = some o' := by
  cases o with
  | tbl ps => obtain ⟨q, e1⟩ := a.tb b ps e; exact ⟨_, e1⟩
  | _ => exact ⟨_, a.st b _ e fun ps z => nomatch z⟩
theorem Sam.free {H H' : Hp} (a : Sam H H') {b : Addr} (e : H' b = none) : H b = none := by
  cases h : H b with
  | none => rfl
  | some o => obtain ⟨o', e1⟩ := a.dom h; rw [e] at e1; cases e1
theorem sam_rd {H H' : Hp} {a : Addr} {u : HO} (e : Sam H H') (hu : ∀ ps, u ≠ .tbl ps) (h : Rd H a u) : Rd H' a u := by
  rcases h with h | ⟨o, h⟩
  · exact .inl (e.st _ _ h hu)
  · exact .inr ⟨o, e.st _ _ h fun ps z => nomatch z⟩
theorem Sam.seq {K : PySem.W.Frag} {H H' : Hp} {a : Addr} {xs : List V} (e : Sam H H') (h : SqL K H a xs) : SqL K H' a xs := by
  rcases h with h | h
  · exact .inl (sam_rd e (fun ps z => nomatch z) h)
  · exact .inr h
theorem Sam.sqt {K : PySem.W.Frag} {H H' : Hp} {a : Addr} {xs : List V} (e : Sam H H') (h : SqT K H a xs) : SqT K H' a xs := by
  rcases h with h | h
  · exact .inl (sam_rd e (fun ps z => nomatch z) h)
  · exact .inr h
theorem Sam.upd {H : Hp} {l : Addr} {o : HO} (hn : H l = none) : Sam H (upd H l o) := same_sam fun b u e => by rw [upd_ne (ne_of_none e hn)]; exact e

/-! ## trees -/
def keyD : Key → PyData
  | .inl i => .int i
  | .inr x => .str x
/-- an exception as it is held: its class at C, the address of its dict -/
def exO (a C : Addr) (d : Option Addr) : HO := .ext fun h => ∃ oe vs, h.get? a = some oe ∧ Zc (.ref C) d oe ∧ oe.data = .fields vs
/-- a thing by its address -/
def rawD (a : Addr) : PyData := .dict [(.none, .none), (.none, .int (a : Nat))]
/-- an exception of the class at C -/
def excD (C : Addr) : Option (Str × PyData) → PyData
  | none => .dict [(.none, .int (C : Nat))]
  | some (f, d) => .dict [(.none, .int (C : Nat)), (.str f, d)]
/-- a dict {2: .., True: ..}, its values at l1, l2 -/
def BkD (o : Obj) (l1 l2 : Addr) : Prop := o.ExactDict ∧ ∃ (es : Array DictEntry) (ep : Nat) (t : Tok), o.data = .dict es ep ∧ es = #[⟨hashInt 2, .int 2 t, .ref l1⟩, ⟨hashInt 1, .bool true, .ref l2⟩]
def bkH (a : Addr) (o : Obj) : HO := .ext fun h => h.get? a = some o
mutual
inductive Tr (K : PySem.W.Frag) (H : Hp) : V → PyData → Prop
  | non : Tr K H .non .none
  | bl (b : Bool) : Tr K H (.bl b) (.bool b)
  | int (i : Int) : Tr K H (.int i) (.int i)
  | str (x : Str) : Tr K H (.str x) (.str x)
  | lst {a : Addr} {xs : List V} {ds : List PyData} (h : SqL K H a xs) (t : Trs K H xs ds) : Tr K H (.ref a) (.list ds)
  | tup {a : Addr} {xs : List V} {ds : List PyData} (h : SqT K H a xs) (t : Trs K H xs ds) : Tr K H (.ref a) (.tuple ds)
  | dct {a : Addr} {kvs : List (Key × V)} {ds : List (PyData × PyData)} (h : Rd H a (.dK kvs)) (t : Trk K H kvs ds) : Tr K H (.ref a) (.dict ds)
  | rw (a : Addr) : Tr K H (.ref a) (.dict [(.none, .none), (.none, .int (a : Nat))])
  | exc0 {a C : Addr} (h : H a = some (exO a C none)) : Tr K H (.ref a) (.dict [(.none, .int (C : Nat))])
  | exc1 {a C dx : Addr} {f : Str} {v : V} {d : PyData} (h : H a = some (exO a C (some dx))) (hx : H dx = some (.xd [(f, v)])) (t : Tr K H v d) : Tr K H (.ref a) (.dict [(.none, .int (C : Nat)), (.str f, d)])
  | bkd {a l1 l2 : Addr} {o : Obj} (hs : (a == sysModules) = false) (ho : BkD o l1 l2) (h : H a = some (bkH a o)) (h1 : SqL K H l1 []) (h2 : SqL K H l2 []) : Tr K H (.ref a) (.dict [(.none, .bool true)])
inductive Trs (K : PySem.W.Frag) (H : Hp) : List V → List PyData → Prop
  | nil : Trs K H [] []
  | cons {v : V} {vs : List V} {d : PyData} {ds : List PyData} (h : Tr K H v d) (t : Trs K H vs ds) : Trs K H (v :: vs) (d :: ds)
inductive Trk (K : PySem.W.Frag) (H : Hp) : List (Key × V) → List (PyData × PyData) → Prop
  | nil : Trk K H [] []
  | cons {k : Key} {v : V} {kvs : List (Key × V)} {d : PyData} {ds : List (PyData × PyData)} (h : Tr K H v d) (t : Trk K H kvs ds) : Trk K H ((k, v) :: kvs) ((keyD k, d) :: ds)
end
theorem dK_nt {kvs : List (Key × V)} : ∀ ps, HO.dK kvs ≠ .tbl ps := fun ps z => by cases z
theorem xd_nt {kvs : List (Str × V)} : ∀ ps, HO.xd kvs ≠ .tbl ps := fun ps z => by cases z
theorem bkH_nt {a : Addr} {o : Obj} : ∀ ps, bkH a o ≠ .tbl ps := fun ps z => by unfold bkH at z; cases z
theorem exO_nt {a C : Addr} {d : Option Addr} : ∀ ps, exO a C d ≠ .tbl ps := fun ps z => by unfold exO at z; cases z
mutual
theorem Tr.sam {K : PySem.W.Frag} {H H' : Hp} (e : Sam H H') : ∀ {v : V} {d : PyData}, Tr K H v d → Tr K H' v d
  | _, _, .non => .non
  | _, _, .bl b => .bl b
  | _, _, .int i => .int i
  | _, _, .str x => .str x
  | _, _, .lst h t => .lst (e.seq h) (Trs.sam e t)
  | _, _, .tup h t => .tup (e.sqt h) (Trs.sam e t)
  | _, _, .dct h t => .dct (sam_rd e dK_nt h) (Trk.sam e t)
  | _, _, .rw a => .rw a
  | _, _, .exc0 h => .exc0 (e.st _ _ h exO_nt)
  | _, _, .exc1 h hx t => .exc1 (e.st _ _ h exO_nt) (e.st _ _ hx xd_nt) (Tr.sam e t)
  | _, _, .bkd hs ho h h1 h2 => .bkd hs ho (e.st _ _ h bkH_nt) (e.seq h1) (e.seq h2)
theorem Trs.sam {K : PySem.W.Frag} {H H' : Hp} (e : Sam H H') : ∀ {vs : List V} {ds : List PyData}, Trs K H vs ds → Trs K H' vs ds
  | _, _, .nil => .nil
  | _, _, .cons h t => .cons (Tr.sam e h) (Trs.sam e t)
theorem Trk.sam {K : PySem.W.Frag} {H H' : Hp} (e : Sam H H') : ∀ {vs : List (Key × V)} {ds : List (PyData × PyData)}, Trk K H vs ds → Trk K H' vs ds
  | _, _, .nil => .nil
  | _, _, .cons h t => .cons (Tr.sam e h) (Trk.sam e t)
end
theorem Tr.mono {K : PySem.W.Frag} {H H' : Hp} (e : Same H H') {v : V} {d : PyData} (h : Tr K H v d) : Tr K H' v d := h.sam (same_sam e)
theorem Trs.mono {K : PySem.W.Frag} {H H' : Hp} (e : Same H H') {v : List V} {d : List PyData} (h : Trs K H v d) : Trs K H' v d := h.sam (same_sam e)
theorem Trk.mono {K : PySem.W.Frag} {H H' : Hp} (e : Same H H') {v : List (Key × V)} {d : List (PyData × PyData)} (h : Trk K H v d) : Trk K H' v d := h.sam (same_sam e)
section
variable {K : PySem.W.Frag} {H : Hp}
theorem Trs.len : ∀ {vs : List V} {ds : List PyData}, Trs K H vs ds → vs.length = ds.length
  | _, _, .nil => rfl
  | _, _, .cons _ t => congrArg (· + 1) (Trs.len t)
theorem Trs.get : ∀ {vs : List V} {ds : List PyData} {i : Nat} {d : PyData}, Trs K H vs ds → ds[i]? = some d → ∃ v, vs[i]? = some v ∧ Tr K H v d
  | _, _, _, _, .nil, e => by simp at e
  | _, _, 0, _, .cons h _, e => ⟨_, rfl, by simp at e; subst e; exact h⟩
  | _, _, i + 1, _, .cons _ t, e => by
    obtain ⟨v, h1, h2⟩ := Trs.get (i := i) t (by simpa using e)
    exact ⟨v, by simpa using h1, h2⟩
theorem Trs.getV : ∀ {vs : List V} {ds : List PyData} {i : Nat} {v : V}, Trs K H vs ds → vs[i]? = some v → ∃ d, ds[i]? = some d ∧ Tr K H v d
  | _, _, _, _, .nil, e => by simp at e
  | _, _, 0, _, .cons h _, e => ⟨_, rfl, by simp at e; subst e; exact h⟩
  | _, _, i + 1, _, .cons _ t, e => by
    obtain ⟨v, h1, h2⟩ := Trs.getV (i := i) t (by simpa using e)
    exact ⟨v, by simpa using h1, h2⟩
theorem Trs.app : ∀ {vs ws : List V} {ds es : List PyData}, Trs K H vs ds → Trs K H ws es → Trs K H (vs ++ ws) (ds ++ es)
  | _, _, _, _, .nil, s => s
  | _, _, _, _, .cons h t, s => .cons h (Trs.app t s)
theorem Trs.take : ∀ {vs : List V} {ds : List PyData} (n : Nat), Trs K H vs ds → Trs K H (vs.take n) (ds.take n)
  | _, _, 0, _ => .nil
  | _, _, _ + 1, .nil => .nil
  | _, _, n + 1, .cons h t => .cons h (Trs.take n t)
theorem Trs.drop : ∀ {vs : List V} {ds : List PyData} (n : Nat), Trs K H vs ds → Trs K H (vs.drop n) (ds.drop n)
  | _, _, 0, r => r
  | _, _, _ + 1, .nil => .nil
  | _, _, n + 1, .cons _ t => Trs.drop n t
theorem Trs.set {v : V} {d : PyData} (r : Tr K H v d) : ∀ {vs : List V} {ds : List PyData} (i : Nat), Trs K H vs ds → Trs K H (vs.set i v) (ds.set i d)
  | _, _, _, .nil => .nil
  | _, _, 0, .cons _ t => .cons r t
  | _, _, i + 1, .cons h t => .cons h (Trs.set r i t)
theorem Trs.erase : ∀ {vs : List V} {ds : List PyData} (i : Nat), Trs K H vs ds → Trs K H (vs.eraseIdx i) (ds.eraseIdx i)
  | _, _, _, .nil => .nil
  | _, _, 0, .cons _ t => t
  | _, _, i + 1, .cons h t => .cons h (Trs.erase i t)
theorem Trs.one {v : V} {d : PyData} (h : Tr K H v d) : Trs K H [v] [d] := .cons h .nil
theorem Trs.repl : ∀ (n : Nat) {vs : List V} {ds : List PyData}, Trs K H vs ds → Trs K H (List.replicate n vs).flatten (List.replicate n ds).flatten
  | 0, _, _, _ => .nil
  | n + 1, vs, ds, h => by
    rw [List.replicate_succ, List.replicate_succ, List.flatten_cons, List.flatten_cons]
    exact h.app (Trs.repl n h)
/-- lists of numbers -/
def nums (xs : List Int) : List PyData := xs.map .int
theorem trs_nums : ∀ (xs : List Int), Trs K H (xs.map V.int) (nums xs)
  | [] => .nil
  | x :: r => .cons (.int x) (trs_nums r)
theorem trs_nums_eq : ∀ {xs : List Int} {vs : List V}, Trs K H vs (nums xs) → vs = xs.map V.int
  | [], _, h => by cases h; rfl
  | x :: r, _, h => by
    cases h with
    | cons h t =>
      cases h
      rw [trs_nums_eq (xs := r) t]
      rfl
theorem len_nums (xs : List Int) : (nums xs).length = xs.length := by unfold nums; rw [List.length_map]
theorem get_nums {xs : List Int} {i : Nat} {x : Int} (h : xs[i]? = some x) : (nums xs)[i]? = some (.int x) := by unfold nums; rw [List.getElem?_map, h]; rfl
theorem nums_app (xs ys : List Int) : nums xs ++ nums ys = nums (xs ++ ys) := by unfold nums; rw [List.map_append]
theorem nums_snoc (xs : List Int) (y : Int) : nums xs ++ [.int y] = nums (xs ++ [y]) := nums_app xs [y]
theorem nums_mem {xs : List Int} {d : PyData} (h : d ∈ nums xs) : ∃ x ∈ xs, d = .int x := by
  obtain ⟨x, hx, e⟩ := List.mem_map.mp h
  exact ⟨x, hx, e.symm⟩
theorem nums_get {xs : List Int} {i : Nat} {d : PyData} (h : (nums xs)[i]? = some d) : ∃ x, xs[i]? = some x ∧ d = .int x := by
  unfold nums at h
  rw [List.getElem?_map] at h
  cases e : xs[i]? with
  | none => rw [e] at h; cases h
  | some x => rw [e] at h; exact ⟨x, rfl, by cases h; rfl⟩
theorem tr_int {v : V} {i : Int} (h : Tr K H v (.int i)) : v = .int i := by cases h; rfl
theorem tr_bl {v : V} {i : Bool} (h : Tr K H v (.bool i)) : v = .bl i := by cases h; rfl
theorem tr_str {v : V} {i : Str} (h : Tr K H v (.str i)) : v = .str i := by cases h; rfl
theorem tr_non {v : V} (h : Tr K H v .none) : v = .non := by cases h; rfl
theorem tr_lst {v : V} {ds : List PyData} (h : Tr K H v (.list ds)) : ∃ a xs, v = .ref a ∧ SqL K H a xs ∧ Trs K H xs ds := by
  cases h with
  | lst h t => exact ⟨_, _, rfl, h, t⟩
theorem tr_tup {v : V} {ds : List PyData} (h : Tr K H v (.tuple ds)) : ∃ a xs, v = .ref a ∧ SqT K H a xs ∧ Trs K H xs ds := by
  cases h with
  | tup h t => exact ⟨_, _, rfl, h, t⟩
theorem tr_dct {v : V} {ds : List (PyData × PyData)} (h : Tr K H v (.dict ds)) (hd : ∀ x ∈ ds, x.1 ≠ .none) : ∃ a kvs, v = .ref a ∧ Rd H a (.dK kvs) ∧ Trk K H kvs ds := by
  cases h with
  | dct h t => exact ⟨_, _, rfl, h, t⟩
  | rw a => exact absurd rfl (hd _ List.mem_cons_self)
  | exc0 h => exact absurd rfl (hd _ List.mem_cons_self)
  | exc1 h hx t => exact absurd rfl (hd _ List.mem_cons_self)
  | bkd hs ho h h1 h2 => exact absurd rfl (hd _ List.mem_cons_self)
end

/-! ## what a frame knows -/
/-- a changing object that one name alone holds -/
inductive Ow where
  | lst (ds : List PyData)
  | dct (kvs : List (Key × PyData))
  | dtt (kvs : List (List Key × PyData))
/-- a tree in which it is told what is one's own -/
inductive PTr where
  | st (d : PyData)
  /-- a list whose items stay -/
  | ls (ds : List PyData)
  | lst (ts : List PTr)
  | tup (ts : List PTr)
  | dct (kvs : List (Key × PTr))
  /-- a dict that stays, its values one's own -/
  | dcs (kvs : List (Key × PTr))
mutual
def PTr.d : PTr → PyData
  | .st d => d
  | .ls ds => .list ds
  | .lst ts => .list (PTr.ds ts)
  | .tup ts => .tuple (PTr.ds ts)
  | .dct kvs => .dict (PTr.dk kvs)
  | .dcs kvs => .dict (PTr.dk kvs)
def PTr.ds : List PTr → List PyData
  | [] => []
  | t :: r => t.d :: PTr.ds r
def PTr.dk : List (Key × PTr) → List (PyData × PyData)
  | [] => []
  | (k, t) :: r => (keyD k, t.d) :: PTr.dk r
end
/-- what stands in a slot -/
inductive Sl where
  | no
  | val (d : PyData)
  | own (o : Ow)
  | io (j : Nat) (o : Ow)
  | raw (v : V)
  /-- a tree of one's own, its objects at fp -/
  | prv (t : PTr) (fp : List Addr)
def Sl.ow : Sl → Option Ow
  | .own o => some o
  | .io _ o => some o
  | _ => none
/-- what an expression gives: a tree that stays; a list that may be read now; a new object; a thing by its value -/
inductive Kd where
  | st (d : PyData)
  | ls (ds : List PyData)
  | fr (o : Ow)
  | raw (v : V)
  /-- the changing object in this slot -/
  | at (i : Nat)
  /-- a tree that may be read now -/
  | nw (d : PyData)
  /-- a new tree of one's own -/
  | ft (t : PTr)
def Kd.firm : Kd → Bool
  | .ls _ => false
  | .nw _ => false
  | _ => true

def flatD : PyData → Bool
  | .none => true
  | .bool _ => true
  | .int _ => true
  | .str _ => true
  | _ => false
def toV : PyData → V
  | .none => .non
  | .bool b => .bl b
  | .int i => .int i
  | .str x => .str x
  | _ => .non
mutual
/-- a tree: what is not in the stable heap stands at fp -/
inductive TrP (K : PySem.W.Frag) (S H : Hp) : List Addr → V → PTr → Prop
  | st {v : V} {d : PyData} (h : Tr K S v d) : TrP K S H [] v (.st d)
  | ls {a : Addr} {xs : List V} {ds : List PyData} (h : H a = some (.lst xs)) (t : Trs K S xs ds) : TrP K S H [a] (.ref a) (.ls ds)
  | lst {a : Addr} {xs : List V} {ds : List PTr} {fp : List Addr} (h : H a = some (.lst xs)) (t : TrPs K S H fp xs ds) : TrP K S H (a :: fp) (.ref a) (.lst ds)
  | tup {a : Addr} {xs : List V} {ds : List PTr} {fp : List Addr} (h : H a = some (.tup xs)) (t : TrPs K S H fp xs ds) : TrP K S H (a :: fp) (.ref a) (.tup ds)
  | dct {a : Addr} {kvs : List (Key × V)} {ds : List (Key × PTr)} {fp : List Addr} (h : H a = some (.dK kvs)) (t : TrPk K S H fp kvs ds) : TrP K S H (a :: fp) (.ref a) (.dct ds)
  | dcs {a : Addr} {o : Obj} {kvs : List (Key × V)} {ds : List (Key × PTr)} {fp : List Addr} (h : S a = some (.frz o (.dK kvs))) (t : TrPk K S H fp kvs ds) : TrP K S H fp (.ref a) (.dcs ds)
inductive TrPs (K : PySem.W.Frag) (S H : Hp) : List Addr → List V → List PTr → Prop
  | nil : TrPs K S H [] [] []
  | cons {v : V} {vs : List V} {d : PTr} {ds : List PTr} {f1 f2 : List Addr} (h : TrP K S H f1 v d) (t : TrPs K S H f2 vs ds) : TrPs K S H (f1 ++ f2) (v :: vs) (d :: ds)
inductive TrPk (K : PySem.W.Frag) (S H : Hp) : List Addr → List (Key × V) → List (Key × PTr) → Prop
  | nil : TrPk K S H [] [] []
  | cons {k : Key} {v : V} {vs : List (Key × V)} {d : PTr} {ds : List (Key × PTr)} {f1 f2 : List Addr} (h : TrP K S H f1 v d) (t : TrPk K S H f2 vs ds) : TrPk K S H (f1 ++ f2) ((k, v) :: vs) ((k, d) :: ds)
end
theorem app_all {α : Type} {P : α → Prop} {a b : List α} (h : ∀ x ∈ a ++ b, P x) : (∀ x ∈ a, P x) ∧ ∀ x ∈ b, P x := ⟨fun x m => h x (List.mem_append_left _ m), fun x m => h x (List.mem_append_right _ m)⟩
mutual
theorem TrP.ext {K : PySem.W.Frag} {S S' H H' : Hp} (s : Same S S') : ∀ {fp : List Addr} {v : V} {d : PTr}, TrP K S H fp v d → (∀ a ∈ fp, H' a = H a) → TrP K S' H' fp v d
  | _, _, _, .st h, _ => .st (h.mono s)
  | _, _, _, .ls h t, e => .ls ((e _ List.mem_cons_self).trans h) (t.mono s)
  | _, _, _, .lst h t, e => .lst ((e _ List.mem_cons_self).trans h) (TrPs.ext s t fun a m => e a (List.mem_cons_of_mem _ m))
  | _, _, _, .tup h t, e => .tup ((e _ List.mem_cons_self).trans h) (TrPs.ext s t fun a m => e a (List.mem_cons_of_mem _ m))
  | _, _, _, .dct h t, e => .dct ((e _ List.mem_cons_self).trans h) (TrPk.ext s t fun a m => e a (List.mem_cons_of_mem _ m))
  | _, _, _, .dcs h t, e => .dcs (s _ _ h) (TrPk.ext s t e)
theorem TrPs.ext {K : PySem.W.Frag} {S S' H H' : Hp} (s : Same S S') : ∀ {fp : List Addr} {v : List V} {d : List PTr}, TrPs K S H fp v d → (∀ a ∈ fp, H' a = H a) → TrPs K S' H' fp v d
  | _, _, _, .nil, _ => .nil
  | _, _, _, .cons h t, e => .cons (TrP.ext s h (app_all e).1) (TrPs.ext s t (app_all e).2)
theorem TrPk.ext {K : PySem.W.Frag} {S S' H H' : Hp} (s : Same S S') : ∀ {fp : List Addr} {v : List (Key × V)} {d : List (Key × PTr)}, TrPk K S H fp v d → (∀ a ∈ fp, H' a = H a) → TrPk K S' H' fp v d
  | _, _, _, .nil, _ => .nil
  | _, _, _, .cons h t, e => .cons (TrP.ext s h (app_all e).1) (TrPk.ext s t (app_all e).2)
end
mutual
theorem TrP.dom {K : PySem.W.Frag} {S H : Hp} : ∀ {fp : List Addr} {v : V} {d : PTr}, TrP K S H fp v d → ∀ a ∈ fp, ∃ o, H a = some o ∧ ¬ Hard o
  | _, _, _, .st h, a, m => absurd m (by simp)
  | _, _, _, .ls h t, a, m => by
    have e := List.mem_singleton.mp m
    exact ⟨_, by rw [e]; exact h, by rintro (⟨ps, z⟩ | ⟨f, z⟩) <;> cases z⟩
  | _, _, _, .lst h t, a, m => by
    rcases List.mem_cons.mp m with e | m
    · exact ⟨_, by rw [e]; exact h, by rintro (⟨ps, z⟩ | ⟨f, z⟩) <;> cases z⟩
    · exact TrPs.dom t a m
  | _, _, _, .tup h t, a, m => by
    rcases List.mem_cons.mp m with e | m
    · exact ⟨_, by rw [e]; exact h, by rintro (⟨ps, z⟩ | ⟨f, z⟩) <;> cases z⟩
    · exact TrPs.dom t a m
  | _, _, _, .dct h t, a, m => by
    rcases List.mem_cons.mp m with e | m
    · exact ⟨_, by rw [e]; exact h, by rintro (⟨ps, z⟩ | ⟨f, z⟩) <;> cases z⟩
    · exact TrPk.dom t a m
  | _, _, _, .dcs h t, a, m => TrPk.dom t a m
theorem TrPs.dom {K : PySem.W.Frag} {S H : Hp} : ∀ {fp : List Addr} {v : List V} {d : List PTr}, TrPs K S H fp v d → ∀ a ∈ fp, ∃ o, H a = some o ∧ ¬ Hard o
  | _, _, _, .nil, a, m => absurd m (by simp)
  | _, _, _, .cons h t, a, m => by
    rcases List.mem_append.mp m with m | m
    · exact TrP.dom h a m
    · exact TrPs.dom t a m
theorem TrPk.dom {K : PySem.W.Frag} {S H : Hp} : ∀ {fp : List Addr} {v : List (Key × V)} {d : List (Key × PTr)}, TrPk K S H fp v d → ∀ a ∈ fp, ∃ o, H a = some o ∧ ¬ Hard o
  | _, _, _, .nil, a, m => absurd m (by simp)
  | _, _, _, .cons h t, a, m => by
    rcases List.mem_append.mp m with m | m
    · exact TrP.dom h a m
    · exact TrPk.dom t a m
end
mutual
/-- seen in a heap that has all of it -/
theorem TrP.tr {K : PySem.W.Frag} {S H M : Hp} (s : Same S M) : ∀ {fp : List Addr} {v : V} {d : PTr}, TrP K S H fp v d → (∀ a ∈ fp, M a = H a) → Tr K M v d.d
  | _, _, _, .st h, _ => h.mono s
  | _, _, _, .ls h t, e => .lst (.inl (.inl ((e _ List.mem_cons_self).trans h))) (t.mono s)
  | _, _, _, .lst h t, e => .lst (.inl (.inl ((e _ List.mem_cons_self).trans h))) (TrPs.tr s t fun a m => e a (List.mem_cons_of_mem _ m))
  | _, _, _, .tup h t, e => .tup (.inl (.inl ((e _ List.mem_cons_self).trans h))) (TrPs.tr s t fun a m => e a (List.mem_cons_of_mem _ m))
  | _, _, _, .dct h t, e => .dct (.inl ((e _ List.mem_cons_self).trans h)) (TrPk.tr s t fun a m => e a (List.mem_cons_of_mem _ m))
  | _, _, _, .dcs h t, e => .dct (.inr ⟨_, s _ _ h⟩) (TrPk.tr s t e)
theorem TrPs.tr {K : PySem.W.Frag} {S H M : Hp} (s : Same S M) : ∀ {fp : List Addr} {v : List V} {d : List PTr}, TrPs K S H fp v d → (∀ a ∈ fp, M a = H a) → Trs K M v (PTr.ds d)
  | _, _, _, .nil, _ => .nil
  | _, _, _, .cons h t, e => .cons (TrP.tr s h (app_all e).1) (TrPs.tr s t (app_all e).2)
theorem TrPk.tr {K : PySem.W.Frag} {S H M : Hp} (s : Same S M) : ∀ {fp : List Addr} {v : List (Key × V)} {d : List (Key × PTr)}, TrPk K S H fp v d → (∀ a ∈ fp, M a = H a) → Trk K M v (PTr.dk d)
  | _, _, _, .nil, _ => .nil
  | _, _, _, .cons h t, e => .cons (TrP.tr s h (app_all e).1) (TrPk.tr s t (app_all e).2)
end
/-- as it stood, or a dict that was locked -/
def LkAt (H M : Hp) (a : Addr) : Prop := M a = H a ∨ ∃ o kvs, H a = some (.dK kvs) ∧ M a = some (.frz o (.dK kvs))
theorem LkAt.lst {H M : Hp} {a : Addr} {xs : List V} (h : LkAt H M a) (e : H a = some (.lst xs)) : M a = some (.lst xs) := by
  rcases h with z | ⟨_, _, z, _⟩
  · exact z.trans e
  · rw [e] at z; cases z
theorem LkAt.tup {H M : Hp} {a : Addr} {xs : List V} (h : LkAt H M a) (e : H a = some (.tup xs)) : M a = some (.tup xs) := by
  rcases h with z | ⟨_, _, z, _⟩
  · exact z.trans e
  · rw [e] at z; cases z
theorem LkAt.dct {H M : Hp} {a : Addr} {xs : List (Key × V)} (h : LkAt H M a) (e : H a = some (.dK xs)) : Rd M a (.dK xs) := by
  rcases h with z | ⟨o, _, z, z2⟩
  · exact .inl (z.trans e)
  · rw [e] at z; cases z; exact .inr ⟨o, z2⟩
mutual
/-- .. where its dicts were locked -/
theorem TrP.trL {K : PySem.W.Frag} {S H M : Hp} (s : Same S M) : ∀ {fp : List Addr} {v : V} {d : PTr}, TrP K S H fp v d → (∀ a ∈ fp, LkAt H M a) → Tr K M v d.d
  | _, _, _, .st h, _ => h.mono s
  | _, _, _, .ls h t, e => .lst (.inl (.inl ((e _ List.mem_cons_self).lst h))) (t.mono s)
  | _, _, _, .lst h t, e => .lst (.inl (.inl ((e _ List.mem_cons_self).lst h))) (TrPs.trL s t fun a m => e a (List.mem_cons_of_mem _ m))
  | _, _, _, .tup h t, e => .tup (.inl (.inl ((e _ List.mem_cons_self).tup h))) (TrPs.trL s t fun a m => e a (List.mem_cons_of_mem _ m))
  | _, _, _, .dct h t, e => .dct ((e _ List.mem_cons_self).dct h) (TrPk.trL s t fun a m => e a (List.mem_cons_of_mem _ m))
  | _, _, _, .dcs h t, e => .dct (.inr ⟨_, s _ _ h⟩) (TrPk.trL s t e)
theorem TrPs.trL {K : PySem.W.Frag} {S H M : Hp} (s : Same S M) : ∀ {fp : List Addr} {v : List V} {d : List PTr}, TrPs K S H fp v d → (∀ a ∈ fp, LkAt H M a) → Trs K M v (PTr.ds d)
  | _, _, _, .nil, _ => .nil
  | _, _, _, .cons h t, e => .cons (TrP.trL s h (app_all e).1) (TrPs.trL s t (app_all e).2)
theorem TrPk.trL {K : PySem.W.Frag} {S H M : Hp} (s : Same S M) : ∀ {fp : List Addr} {v : List (Key × V)} {d : List (Key × PTr)}, TrPk K S H fp v d → (∀ a ∈ fp, LkAt H M a) → Trk K M v (PTr.dk d)
  | _, _, _, .nil, _ => .nil
  | _, _, _, .cons h t, e => .cons (TrP.trL s h (app_all e).1) (TrPk.trL s t (app_all e).2)
end
/-- a list, a tuple, a dict -/
def Ltd (u : Option HO) : Prop := (∃ xs, u = some (.lst xs)) ∨ (∃ xs, u = some (.tup xs)) ∨ ∃ kvs, u = some (.dK kvs)
theorem all_one {α : Type} {P : α → Prop} {a : α} (h : P a) : ∀ x ∈ [a], P x := fun x m => by rw [List.mem_singleton.mp m]; exact h
theorem all_cons {α : Type} {P : α → Prop} {a : α} {l : List α} (h : P a) (t : ∀ x ∈ l, P x) : ∀ x ∈ a :: l, P x := List.forall_mem_cons.mpr ⟨h, t⟩
theorem all_app {α : Type} {P : α → Prop} {a b : List α} (h : ∀ x ∈ a, P x) (t : ∀ x ∈ b, P x) : ∀ x ∈ a ++ b, P x := fun x m => (List.mem_append.mp m).elim (h x) (t x)
theorem all_nil {α : Type} {P : α → Prop} : ∀ x ∈ ([] : List α), P x := fun x m => nomatch m
mutual
/-- what stands there: lists, tuples, dicts -/
theorem TrP.kind {K : PySem.W.Frag} {S H : Hp} : ∀ {fp : List Addr} {v : V} {d : PTr}, TrP K S H fp v d → ∀ a ∈ fp, Ltd (H a)
  | _, _, _, .st h => all_nil
  | _, _, _, .ls h t => all_one (.inl ⟨_, h⟩)
  | _, _, _, .lst h t => all_cons (.inl ⟨_, h⟩) (TrPs.kind t)
  | _, _, _, .tup h t => all_cons (.inr (.inl ⟨_, h⟩)) (TrPs.kind t)
  | _, _, _, .dct h t => all_cons (.inr (.inr ⟨_, h⟩)) (TrPk.kind t)
  | _, _, _, .dcs h t => TrPk.kind t
theorem TrPs.kind {K : PySem.W.Frag} {S H : Hp} : ∀ {fp : List Addr} {v : List V} {d : List PTr}, TrPs K S H fp v d → ∀ a ∈ fp, Ltd (H a)
  | _, _, _, .nil => all_nil
  | _, _, _, .cons h t => all_app (TrP.kind h) (TrPs.kind t)
theorem TrPk.kind {K : PySem.W.Frag} {S H : Hp} : ∀ {fp : List Addr} {v : List (Key × V)} {d : List (Key × PTr)}, TrPk K S H fp v d → ∀ a ∈ fp, Ltd (H a)
  | _, _, _, .nil => all_nil
  | _, _, _, .cons h t => all_app (TrP.kind h) (TrPk.kind t)
end
theorem TrPs.of {K : PySem.W.Frag} {S H : Hp} : ∀ {vs : List V} {ds : List PyData}, Trs K S vs ds → TrPs K S H [] vs (ds.map .st)
  | _, _, .nil => .nil
  | _, _, .cons h t => .cons (f1 := []) (f2 := []) (.st h) (TrPs.of t)
theorem ds_st : ∀ ds : List PyData, PTr.ds (ds.map .st) = ds
  | [] => rfl
  | d :: r => by
    show PTr.d (.st d) :: PTr.ds (r.map .st) = d :: r
    rw [ds_st r]; rfl
theorem ds_len : ∀ ts : List PTr, (PTr.ds ts).length = ts.length
  | [] => rfl
  | t :: r => congrArg (· + 1) (ds_len r)
theorem ds_get : ∀ (ts : List PTr) (n : Nat), (PTr.ds ts)[n]? = (ts[n]?).map PTr.d
  | [], n => by simp [PTr.ds]
  | t :: r, 0 => rfl
  | t :: r, n + 1 => by
    have := ds_get r n
    simpa [PTr.ds] using this
theorem ds_app : ∀ (a b : List PTr), PTr.ds (a ++ b) = PTr.ds a ++ PTr.ds b
  | [], b => rfl
  | t :: r, b => by
    show t.d :: PTr.ds (r ++ b) = _
    rw [ds_app r b]; rfl
theorem TrPs.len {K : PySem.W.Frag} {S H : Hp} : ∀ {fp : List Addr} {vs : List V} {ds : List PTr}, TrPs K S H fp vs ds → vs.length = ds.length
  | _, _, _, .nil => rfl
  | _, _, _, .cons h t => congrArg (· + 1) t.len
/-- one of them, the others as they are -/
theorem TrPs.split {K : PySem.W.Frag} {S H : Hp} : ∀ {fp : List Addr} {vs : List V} {ds : List PTr} (n : Nat) {v : V} {d : PTr}, TrPs K S H fp vs ds → vs[n]? = some v → ds[n]? = some d → ∃ f0 f f1, fp = f0 ++ (f ++ f1) ∧ TrP K S H f v d ∧
    ∀ (S' H' : Hp) (f' : List Addr) (d' : PTr), Same S S' → TrP K S' H' f' v d' → (∀ a ∈ f0, H' a = H a) → (∀ a ∈ f1, H' a = H a) → TrPs K S' H' (f0 ++ (f' ++ f1)) vs (ds.set n d')
  | _, _, _, _, _, _, .nil, e, _ => by simp at e
  | _, _, _, 0, v, d, .cons (f1 := f1) (f2 := f2) h t, e1, e2 => by
    simp at e1 e2
    subst e1 e2
    exact ⟨[], f1, f2, rfl, h, fun S' H' f' d' s t' _ z => TrPs.cons (f1 := f') (f2 := f2) t' (t.ext s z)⟩
  | _, _, _, n + 1, v, d, .cons (f1 := g1) (f2 := g2) h t, e1, e2 => by
    obtain ⟨f0, f, f1, e, tf, k⟩ := TrPs.split n t (by simpa using e1) (by simpa using e2)
    subst e
    refine ⟨g1 ++ f0, f, f1, by simp, tf, fun S' H' f' d' s t' z0 z1 => ?_⟩
    have := TrPs.cons (h.ext s fun a m => z0 a (List.mem_append_left _ m)) (k S' H' f' d' s t' (fun a m => z0 a (List.mem_append_right _ m)) z1)
    simpa using this
theorem TrPs.snoc {K : PySem.W.Frag} {S H : Hp} {f2 : List Addr} {v : V} {d : PTr} (h : TrP K S H f2 v d) : ∀ {fp : List Addr} {vs : List V} {ds : List PTr}, TrPs K S H fp vs ds → TrPs K S H (fp ++ f2) (vs ++ [v]) (ds ++ [d])
  | _, _, _, .nil => by
    have := TrPs.cons h (.nil (K := K) (S := S) (H := H))
    simpa using this
  | _, _, _, .cons h1 t => by
    have := TrPs.cons h1 (TrPs.snoc h t)
    simpa using this
/-- the stable heap with what stood at gp -/
noncomputable def layS (S H : Hp) (gp : List Addr) : Hp := by
  classical
  exact fun a => if a ∈ gp then H a else S a
theorem layS_in {S H : Hp} {gp : List Addr} {a : Addr} (h : a ∈ gp) : layS S H gp a = H a := by unfold layS; exact if_pos h
theorem layS_out {S H : Hp} {gp : List Addr} {a : Addr} (h : a ∉ gp) : layS S H gp a = S a := by unfold layS; exact if_neg h
theorem layS_ext {S H : Hp} {gp : List Addr} (n : ∀ a ∈ gp, S a = none) : Same S (layS S H gp) := fun a o e => by
  rw [layS_out fun m => by rw [n a m] at e; cases e]
  exact e
theorem TrP.frz {K : PySem.W.Frag} {S H : Hp} {fp : List Addr} {v : V} {d : PTr} (h : TrP K S H fp v d) (n : ∀ a ∈ fp, S a = none) : Tr K (layS S H fp) v d.d :=
  TrP.tr (layS_ext n) h fun _ m => layS_in m
/-- what may stay for ever: no table, no dict that is not locked -/
def Stb : HO → Prop
  | .tbl _ => False
  | .dK _ => False
  | .dT _ => False
  | _ => True
def NoT (S : Hp) : Prop := ∀ a o, S a = some o → Stb o
theorem NoT.tb {S : Hp} (h : NoT S) : ∀ a ps, S a ≠ some (.tbl ps) := fun a ps e => h a _ e
theorem NoT.dk {S : Hp} (h : NoT S) {a : Addr} {kvs : List (Key × V)} (e : Rd S a (.dK kvs)) : ∃ o, S a = some (.frz o (.dK kvs)) := by
  rcases e with e | e
  · exact (h a _ e).elim
  · exact e
/-- the things at ls locked -/
def lkH (H : Hp) (ls : List Addr) (od : Addr → Obj) : Hp := fun a => if a ∈ ls then (H a).map (HO.frz (od a)) else H a
theorem lkH_in {H : Hp} {ls : List Addr} {od : Addr → Obj} {a : Addr} {u : HO} (h : a ∈ ls) (e : H a = some u) : lkH H ls od a = some (.frz (od a) u) := by
  unfold lkH; rw [if_pos h, e]; rfl
theorem lkH_out {H : Hp} {ls : List Addr} {od : Addr → Obj} {a : Addr} (h : a ∉ ls) : lkH H ls od a = H a := if_neg h
theorem lkH_nil {H : Hp} {od : Addr → Obj} : lkH H [] od = H := by funext a; exact if_neg (by simp)
/-- the dicts among fp -/
def isDK : HO → Bool
  | .dK _ => true
  | _ => false
theorem isDK_ex {u : HO} (h : isDK u = true) : ∃ kvs, u = .dK kvs := by
  cases u <;> first | exact ⟨_, rfl⟩ | cases h
def dkAt (H : Hp) (a : Addr) : Bool := match H a with | some u => isDK u | none => false
theorem dkAt_ex {H : Hp} {a : Addr} (h : dkAt H a = true) : ∃ kvs, H a = some (.dK kvs) := by
  unfold dkAt at h
  cases e : H a with
  | none => rw [e] at h; cases h
  | some u =>
    rw [e] at h
    obtain ⟨kvs, e2⟩ := isDK_ex h
    exact ⟨kvs, by rw [e2]⟩
theorem dkAt_of {H : Hp} {a : Addr} {kvs : List (Key × V)} (e : H a = some (.dK kvs)) : dkAt H a = true := by
  unfold dkAt; rw [e]; rfl
def dks (H : Hp) (fp : List Addr) : List Addr := fp.filter (dkAt H)
theorem dks_mem {H : Hp} {fp : List Addr} {a : Addr} (h : a ∈ dks H fp) : a ∈ fp ∧ ∃ kvs, H a = some (.dK kvs) :=
  have x := List.mem_filter.mp h
  ⟨x.1, dkAt_ex x.2⟩
theorem dks_not {H : Hp} {fp : List Addr} {a : Addr} (m : a ∈ fp) (h : a ∉ dks H fp) : ∀ kvs, H a ≠ some (.dK kvs) := fun kvs e => h (List.mem_filter.mpr ⟨m, dkAt_of e⟩)
theorem TrP.frzL {K : PySem.W.Frag} {S H : Hp} {fp : List Addr} {v : V} {d : PTr} (h : TrP K S H fp v d) (n : ∀ a ∈ fp, S a = none) (od : Addr → Obj) : Tr K (layS S (lkH H (dks H fp) od) fp) v d.d ∧ ∀ a ∈ fp, ∀ o, lkH H (dks H fp) od a = some o → Stb o := by
  refine ⟨TrP.trL (layS_ext n) h fun a m => ?_, fun a m o e => ?_⟩
  · show layS S (lkH H (dks H fp) od) fp a = H a ∨ ∃ o kvs, H a = some (.dK kvs) ∧ layS S (lkH H (dks H fp) od) fp a = some (.frz o (.dK kvs))
    rw [layS_in m]
    by_cases z : a ∈ dks H fp
    · obtain ⟨_, kvs, e⟩ := dks_mem z
      exact .inr ⟨_, kvs, e, lkH_in z e⟩
    · exact .inl (lkH_out z)
  · by_cases z : a ∈ dks H fp
    · obtain ⟨_, kvs, e1⟩ := dks_mem z
      rw [lkH_in z e1] at e
      cases e; trivial
    · rw [lkH_out z] at e
      rcases h.kind a m with ⟨xs, e1⟩ | ⟨xs, e1⟩ | ⟨kvs, e1⟩
      · rw [e1] at e; cases e; trivial
      · rw [e1] at e; cases e; trivial
      · exact absurd e1 (dks_not m z kvs)
theorem tr_toV {K : PySem.W.Frag} {H : Hp} {d : PyData} (h : flatD d = true) : Tr K H (toV d) d := by
  cases d with
  | none => exact .non
  | bool b => exact .bl b
  | int i => exact .int i
  | str x => exact .str x
  | list x => cases h
  | tuple x => cases h
  | dict x => cases h

/-- the frame's entry: what stays for ever, all that stood, what was handed in to be changed -/
structure Bs where
  S0 : Hp
  H0 : Hp
  ls : List Addr

section
variable (K : PySem.W.Frag)
def OwOk (S H : Hp) (l : Addr) : Ow → Prop
  | .lst ds => ∃ xs, H l = some (.lst xs) ∧ Trs K S xs ds
  | .dct kvs => ∃ xs : List (Key × V), H l = some (.dK xs) ∧ Paired (fun p q => p.1 = q.1 ∧ Tr K S p.2 q.2) xs kvs
  | .dtt kvs => ∃ xs : List (List Key × V), H l = some (.dT xs) ∧ Paired (fun p q => p.1 = q.1 ∧ Tr K S p.2 q.2) xs kvs
def SlOk (B : Bs) (S H : Hp) (x : Option V) : Sl → Prop
  | .no => True
  | .val d => ∃ v, x = some v ∧ Tr K S v d
  | .own o => ∃ l, x = some (.ref l) ∧ S l = none ∧ OwOk K S H l o ∧ B.H0 l = none
  | .io j o => ∃ l, x = some (.ref l) ∧ S l = none ∧ OwOk K S H l o ∧ B.ls[j]? = some l
  | .raw v => x = some v
  | .prv d fp => ∃ v, x = some v ∧ TrP K S H fp v d ∧ fp.Nodup ∧ ∀ a ∈ fp, S a = none ∧ B.H0 a = none
end
/-- a is of what the slot holds for itself -/
def FpS (s : Sl) (x : Option V) (a : Addr) : Prop := (∃ o, s.ow = some o ∧ x = some (.ref a)) ∨ ∃ (d : PTr) (fp : List Addr), s = .prv d fp ∧ a ∈ fp
def FpAt (σ : St) (sl : List Sl) (j : Nat) (a : Addr) : Prop := ∃ s x, sl[j]? = some s ∧ σ[j]? = some x ∧ FpS s x a
def OwnAt (σ : St) (sl : List Sl) (a : Addr) : Prop := ∃ j, FpAt σ sl j a
theorem fpS_no {x : Option V} {a : Addr} : ¬ FpS .no x a := fun h => by rcases h with ⟨o, h, _⟩ | ⟨d, fp, h, _⟩ <;> cases h
theorem fpS_val {d : PyData} {x : Option V} {a : Addr} : ¬ FpS (.val d) x a := fun h => by rcases h with ⟨o, h, _⟩ | ⟨d, fp, h, _⟩ <;> cases h
theorem fpS_raw {v : V} {x : Option V} {a : Addr} : ¬ FpS (.raw v) x a := fun h => by rcases h with ⟨o, h, _⟩ | ⟨d, fp, h, _⟩ <;> cases h
theorem fpS_own {o : Ow} {x : Option V} {a : Addr} : FpS (.own o) x a ↔ x = some (.ref a) := by
  constructor
  · rintro (⟨o, _, h⟩ | ⟨d, fp, h, _⟩)
    · exact h
    · cases h
  · exact fun h => .inl ⟨o, rfl, h⟩
theorem fpS_io {j : Nat} {o : Ow} {x : Option V} {a : Addr} : FpS (.io j o) x a ↔ x = some (.ref a) := by
  constructor
  · rintro (⟨o, _, h⟩ | ⟨d, fp, h, _⟩)
    · exact h
    · cases h
  · exact fun h => .inl ⟨o, rfl, h⟩
theorem fpS_prv {d : PTr} {fp : List Addr} {x : Option V} {a : Addr} : FpS (.prv d fp) x a ↔ a ∈ fp := by
  constructor
  · rintro (⟨o, h, _⟩ | ⟨d, fp, h, m⟩)
    · cases h
    · cases h; exact m
  · exact fun h => .inr ⟨d, fp, rfl, h⟩
theorem FpAt.of_ow {σ : St} {sl : List Sl} {j : Nat} {s : Sl} {o : Ow} {a : Addr} (h : sl[j]? = some s) (ho : s.ow = some o) (hx : σ[j]? = some (some (.ref a))) : FpAt σ sl j a := ⟨s, _, h, hx, .inl ⟨o, ho, rfl⟩⟩

/-- the table of modules is known: no list, no dict of ours -/
def IsSm (φ : Heap → Prop) : Prop := ∀ h : Heap, φ h → ∃ o es ep, h.get? sysModules = some o ∧ o.data = .dict es ep
def SmB (B : Bs) : Prop := (∃ φ, B.H0 sysModules = some (.ext φ) ∧ IsSm φ) ∧ sysModules ∉ B.ls
structure Stt [Tb] (K : PySem.W.Frag) (B : Bs) (S H : Hp) (σ : St) (sl : List Sl) : Prop where
  s0 : Same B.S0 S
  sh : Same S H
  new : ∀ a o, S a = some o → B.S0 a = none → B.H0 a = none
  keep : ∀ a o, B.H0 a = some o → a ∉ B.ls → (∀ ps, o ≠ .tbl ps) → H a = some o
  dom : ∀ a o, B.H0 a = some o → ∃ o', H a = some o'
  lsd : ∀ l, l ∈ B.ls → ∃ o, B.H0 l = some o
  len : σ.length = sl.length
  slot : ∀ (i : Nat) (s : Sl), sl[i]? = some s → ∃ x, σ[i]? = some x ∧ SlOk K B S H x s
  dis : ∀ (i j : Nat) (a : Addr), FpAt σ sl i a → FpAt σ sl j a → i = j
  tabs : LamX.Tabs Tb.T H
  tbk : ∀ a ps, B.H0 a = some (.tbl ps) → ∃ ps', H a = some (.tbl ps')
  snt : NoT S
  sm : SmB B

/-- from one state to a later one within an expression; p: nothing that stood was changed -/
structure Adv (σ : St) (sl : List Sl) (S H : Hp) (sl' : List Sl) (S' H' : Hp) (p : Bool) : Prop where
  s : Same S S'
  n : ∀ a o, S' a = some o → S a = none → H a = none
  d : ∀ a o, H a = some o → ∃ o', H' a = some o'
  k : ∀ a o, H a = some o → (∀ ps, o ≠ .tbl ps) → ¬ OwnAt σ sl a → H' a = some o
  h : p = true → Sam H H'
  w : ∀ a, OwnAt σ sl' a → OwnAt σ sl a

theorem Hard.nt {o : HO} (h : ¬ Hard o) : ∀ ps, o ≠ .tbl ps := fun ps z => h (.inl ⟨ps, z⟩)
/-- tables where another object was written -/
theorem tabs_upd {T : List (Addr × Str)} {H : Hp} {l : Addr} {o u : HO} (t : LamX.Tabs T H) (h : H l = some o) (n : ¬ Hard o) : LamX.Tabs T (upd H l u) := fun p hp => by
  obtain ⟨ps, h1, h2, h3⟩ := t p hp
  refine ⟨ps, by rw [upd_ne fun z => n (.inl ⟨ps, by rw [z, h] at h1; exact Option.some.inj h1⟩)]; exact h1, h2, fun pos cv hc => ?_⟩
  obtain ⟨c, e1, e2⟩ := h3 pos cv hc
  have hc : c ≠ l := fun z => n (.inr (by
    rw [z, h] at e2
    unfold LamX.CodeO at e2
    exact ⟨_, Option.some.inj e2⟩))
  exact ⟨c, e1, by rw [upd_ne hc]; exact e2⟩
theorem tbk_upd {H0 H : Hp} {l : Addr} {o u : HO} (t : ∀ a ps, H0 a = some (.tbl ps) → ∃ ps', H a = some (.tbl ps')) (h : H l = some o) (n : ¬ Hard o) : ∀ a ps, H0 a = some (.tbl ps) → ∃ ps', upd H l u a = some (.tbl ps') := fun a ps e => by
  obtain ⟨q, e1⟩ := t a ps e
  exact ⟨q, by rw [upd_ne fun z => n (.inl ⟨q, by rw [z, h] at e1; exact Option.some.inj e1⟩)]; exact e1⟩
theorem tabs_new {T : List (Addr × Str)} {H : Hp} {l : Addr} {u : HO} (t : LamX.Tabs T H) (h : H l = none) : LamX.Tabs T (upd H l u) := t.ext fun b o e => by rw [upd_ne (ne_of_none e h)]; exact e
section
variable [Tb] {K : PySem.W.Frag} {B : Bs} {S S' S'' H H' H'' : Hp} {σ : St} {sl sl' sl'' : List Sl} {p q : Bool} {a l : Addr} {o : HO} {v : V}
theorem Adv.refl : Adv σ sl S H sl S H p := ⟨.refl _, fun a o h1 h2 => (by rw [h1] at h2; cases h2), fun _ o h => ⟨o, h⟩, fun _ _ h _ _ => h, fun _ => .refl _, fun _ h => h⟩
theorem Adv.trans (x : Adv σ sl S H sl' S' H' p) (y : Adv σ sl' S' H' sl'' S'' H'' q) : Adv σ sl S H sl'' S'' H'' (p && q) where
  s := x.s.trans y.s
  n := fun a o h1 h2 => by
    cases e : S' a with
    | some o' => exact x.n a o' e h2
    | none =>
      have h3 := y.n a o h1 e
      cases e2 : H a with
      | none => rfl
      | some o2 =>
        obtain ⟨o3, e3⟩ := x.d a o2 e2
        rw [e3] at h3
        cases h3
  d := fun a o h => by
    obtain ⟨o1, e⟩ := x.d a o h
    exact y.d a o1 e
  k := fun a o h ht h2 => y.k a o (x.k a o h ht h2) ht fun z => h2 (x.w a z)
  h := fun e => by
    obtain ⟨e1, e2⟩ := Bool.and_eq_true_iff.mp e
    exact (x.h e1).trans (y.h e2)
  w := fun a h => x.w a (y.w a h)
theorem Adv.weak (x : Adv σ sl S H sl' S' H' p) (h : q = true → p = true) : Adv σ sl S H sl' S' H' q := ⟨x.s, x.n, x.d, x.k, fun e => x.h (h e), x.w⟩
theorem Adv.same (h : Same H H') : Adv σ sl S H sl S H' p := ⟨.refl _, fun a o h1 h2 => (by rw [h1] at h2; cases h2), fun _ o e => ⟨o, h _ _ e⟩, fun _ _ e _ _ => h _ _ e, fun _ => same_sam h, fun _ e => e⟩
theorem OwOk.ext {o : Ow} (x : OwOk K S H l o) (s : Same S S') (h : H' l = H l) : OwOk K S' H' l o := by
  cases o with
  | lst ds => obtain ⟨xs, e, t⟩ := x; exact ⟨xs, h.trans e, t.mono s⟩
  | dct ds => obtain ⟨xs, e, t⟩ := x; exact ⟨xs, h.trans e, Paired.mapP t fun a b z => ⟨z.1, z.2.mono s⟩⟩
  | dtt ds => obtain ⟨xs, e, t⟩ := x; exact ⟨xs, h.trans e, Paired.mapP t fun a b z => ⟨z.1, z.2.mono s⟩⟩
theorem OwOk.soft {o : Ow} (x : OwOk K S H l o) : ∃ u, H l = some u ∧ ¬ Hard u := by
  cases o with
  | lst ds => obtain ⟨xs, e, t⟩ := x; exact ⟨_, e, by rintro (⟨ps, z⟩ | ⟨f, z⟩) <;> cases z⟩
  | dct ds => obtain ⟨xs, e, t⟩ := x; exact ⟨_, e, by rintro (⟨ps, z⟩ | ⟨f, z⟩) <;> cases z⟩
  | dtt ds => obtain ⟨xs, e, t⟩ := x; exact ⟨_, e, by rintro (⟨ps, z⟩ | ⟨f, z⟩) <;> cases z⟩
theorem OwOk.some {o : Ow} (x : OwOk K S H l o) : ∃ u, H l = some u := by
  obtain ⟨u, e, _⟩ := x.soft
  exact ⟨u, e⟩
/-- what stands for itself in a slot stands somewhere else than all that stays -/
theorem SlOk.fp {s : Sl} {x : Option V} (ok : SlOk K B S H x s) (h : FpS s x a) : S a = none ∧ ∃ u, H a = some u ∧ ¬ Hard u := by
  cases s with
  | no => exact absurd h fpS_no
  | val d => exact absurd h fpS_val
  | raw d => exact absurd h fpS_raw
  | own o =>
    obtain ⟨l, e, n, ow, _⟩ := ok
    rw [fpS_own.mp h] at e
    cases e
    exact ⟨n, ow.soft⟩
  | io j o =>
    obtain ⟨l, e, n, ow, _⟩ := ok
    rw [fpS_io.mp h] at e
    cases e
    exact ⟨n, ow.soft⟩
  | prv d fp =>
    obtain ⟨v, e, t, nd, n⟩ := ok
    have m := fpS_prv.mp h
    exact ⟨(n a m).1, t.dom a m⟩
/-- a slot's content in another state that agrees where the slot holds objects for itself -/
theorem SlOk.ext {s : Sl} {x : Option V} (ok : SlOk K B S H x s) (ss : Same S S') (h : ∀ a, FpS s x a → H' a = H a) (n : ∀ a, FpS s x a → S' a = none) : SlOk K B S' H' x s := by
  cases s with
  | no => trivial
  | val d => obtain ⟨v, e1, t⟩ := ok; exact ⟨v, e1, t.mono ss⟩
  | raw v => exact ok
  | own o =>
    obtain ⟨l, e1, n1, ow, fr⟩ := ok
    have m := fpS_own (o := o) (x := x) (a := l) |>.mpr e1
    exact ⟨l, e1, n l m, ow.ext ss (h l m), fr⟩
  | io j o =>
    obtain ⟨l, e1, n1, ow, fr⟩ := ok
    have m := fpS_io (j := j) (o := o) (x := x) (a := l) |>.mpr e1
    exact ⟨l, e1, n l m, ow.ext ss (h l m), fr⟩
  | prv d fp =>
    obtain ⟨v, e, t, nd, n2⟩ := ok
    exact ⟨v, e, t.ext ss fun a m => h a (fpS_prv.mpr m), nd, fun a m => ⟨n a (fpS_prv.mpr m), (n2 a m).2⟩⟩
/-- the state in a heap that has grown -/
theorem Stt.growS (I : Stt K B S H σ sl) (s : Same S S') (h : Sam H H') (sh : Same S' H') (n : ∀ a o, S' a = some o → S a = none → H a = none) (tb : LamX.Tabs Tb.T H') (nt : NoT S') : Stt K B S' H' σ sl where
  s0 := I.s0.trans s
  sh := sh
  new := fun a o e e0 => by
    cases e1 : S a with
    | some o1 => exact I.new a o1 e1 e0
    | none =>
      have e2 := n a o e e1
      cases e3 : B.H0 a with
      | none => rfl
      | some o3 =>
        obtain ⟨o4, e4⟩ := I.dom a o3 e3
        rw [e4] at e2
        cases e2
  keep := fun a o e hn ht => h.st _ _ (I.keep a o e hn ht) ht
  dom := fun a o e => by
    obtain ⟨o', e'⟩ := I.dom a o e
    exact h.dom e'
  lsd := I.lsd
  len := I.len
  slot := fun i s' e => by
    obtain ⟨x, hx, ok⟩ := I.slot i s' e
    refine ⟨x, hx, ok.ext s (fun a m => ?_) fun a m => ?_⟩
    · obtain ⟨_, u, eu, nu⟩ := ok.fp m
      exact (h.st _ _ eu (Hard.nt nu)).trans eu.symm
    · obtain ⟨n1, u, eu, nu⟩ := ok.fp m
      cases e2 : S' a with
      | none => rfl
      | some o2 => rw [n a o2 e2 n1] at eu; cases eu
  dis := I.dis
  tabs := tb
  tbk := fun a ps e => by
    obtain ⟨q, e1⟩ := I.tbk a ps e
    exact h.tb a q e1
  snt := nt
  sm := I.sm
theorem Stt.grow (I : Stt K B S H σ sl) (s : Same S S') (h : Same H H') (sh : Same S' H') (n : ∀ a o, S' a = some o → S a = none → H a = none) (nt : NoT S') : Stt K B S' H' σ sl := I.growS s (same_sam h) sh n (I.tabs.ext h) nt
theorem noT_upd {S : Hp} {l : Addr} {o : HO} (h : NoT S) (ho : Stb o) : NoT (upd S l o) := fun a ps e => by
  by_cases z : a = l
  · rw [z, upd_same] at e; cases e; exact ho
  · rw [upd_ne z] at e; exact h a ps e
theorem Stt.smH (I : Stt K B S H σ sl) : ∃ φ, H sysModules = some (.ext φ) ∧ IsSm φ := by
  obtain ⟨⟨φ, e, h⟩, n⟩ := I.sm
  exact ⟨φ, I.keep _ _ e n (fun ps z => nomatch z), h⟩
theorem Stt.sm0 (I : Stt K B S H σ sl) : SmB ⟨S, H, []⟩ := ⟨I.smH, fun h => nomatch h⟩
theorem Stt.sm1 (I : Stt K B S H σ sl) {l : Addr} {o : Ow} (x : OwOk K S H l o) : SmB ⟨S, H, [l]⟩ := ⟨I.smH, fun h => by
  obtain ⟨φ, e, _⟩ := I.smH
  obtain ⟨u, eu, nu⟩ := x.soft
  rw [List.mem_singleton.mp h, eu] at e
  cases e
  exact nu (.inr ⟨φ, rfl⟩)⟩
theorem Stt.val (I : Stt K B S H σ sl) {i : Nat} {d : PyData} (h : sl[i]? = some (.val d)) : ∃ v, σ[i]? = some (some v) ∧ Tr K S v d := by
  obtain ⟨x, hx, v, rfl, t⟩ := I.slot i _ h
  exact ⟨v, hx, t⟩
theorem Stt.raw (I : Stt K B S H σ sl) {i : Nat} {v : V} (h : sl[i]? = some (.raw v)) : σ[i]? = some (some v) := by
  obtain ⟨x, hx, e⟩ := I.slot i _ h
  have e' : x = Option.some v := e
  rw [hx, e']
theorem Stt.own (I : Stt K B S H σ sl) {i : Nat} {s : Sl} {o : Ow} (h : sl[i]? = some s) (ho : s.ow = some o) : ∃ l, σ[i]? = some (some (.ref l)) ∧ S l = none ∧ OwOk K S H l o := by
  obtain ⟨x, hx, ok⟩ := I.slot i _ h
  cases s with
  | own o' =>
    cases ho
    obtain ⟨l, rfl, a, b, c⟩ := ok
    exact ⟨l, hx, a, b⟩
  | io j o' =>
    cases ho
    obtain ⟨l, rfl, a, b, c⟩ := ok
    exact ⟨l, hx, a, b⟩
  | no => cases ho
  | val d => cases ho
  | raw v => cases ho
  | prv d fp => cases ho
theorem Stt.ownAt (I : Stt K B S H σ sl) (h : OwnAt σ sl l) : S l = none ∧ ∃ u, H l = some u ∧ ¬ Hard u := by
  obtain ⟨j, s, x, h1, h2, h3⟩ := h
  obtain ⟨x', hx, ok⟩ := I.slot j s h1
  rw [h2] at hx
  cases hx
  exact ok.fp h3
/-- a new object stands -/
theorem Stt.laid (I : Stt K B S H σ sl) (hn : H l = none) : Stt K B S (upd H l o) σ sl :=
  I.grow (.refl _) (fun b u e => by rw [upd_ne (ne_of_none e hn)]; exact e) (fun b u e => by rw [upd_ne (ne_of_none (I.sh _ _ e) hn)]; exact I.sh _ _ e) (fun a o h1 h2 => by rw [h1] at h2; cases h2) I.snt
theorem same_new (hn : H l = none) : Same H (upd H l o) := fun b u e => by rw [upd_ne (ne_of_none e hn)]; exact e
theorem Stt.notIn (I : Stt K B S H σ sl) (hn : H l = none) : S l = none ∧ B.H0 l = none ∧ ¬ OwnAt σ sl l := by
  refine ⟨I.sh.free hn, ?_, fun h => ?_⟩
  · cases e : B.H0 l with
    | none => rfl
    | some o =>
      obtain ⟨o', e'⟩ := I.dom l o e
      rw [e'] at hn
      cases hn
  · obtain ⟨_, u, e, _⟩ := I.ownAt h
    rw [e] at hn
    cases hn
end
/-! ### one slot written -/
theorem fpAt_set {σ : St} {sl : List Sl} {i j : Nat} {x : Option V} {s : Sl} {a : Addr} (h : FpAt (σ.set i x) (sl.set i s) j a) : (j ≠ i ∧ FpAt σ sl j a) ∨ (j = i ∧ FpS s x a) := by
  obtain ⟨s', x', h1, h2, h3⟩ := h
  by_cases hj : j = i
  · subst hj
    have l1 : j < sl.length := by have := (List.getElem?_eq_some_iff.mp h1).1; rwa [List.length_set] at this
    have l2 : j < σ.length := by have := (List.getElem?_eq_some_iff.mp h2).1; rwa [List.length_set] at this
    rw [List.getElem?_set_self l1] at h1
    rw [List.getElem?_set_self l2] at h2
    cases h1
    cases h2
    exact .inr ⟨rfl, h3⟩
  · rw [List.getElem?_set_ne (Ne.symm hj)] at h1 h2
    exact .inl ⟨hj, s', x', h1, h2, h3⟩
/-- the slots alone -/
theorem fpAt_setS {σ : St} {sl : List Sl} {i j : Nat} {s : Sl} {a : Addr} (h : FpAt σ (sl.set i s) j a) : (j ≠ i ∧ FpAt σ sl j a) ∨ (j = i ∧ ∃ x, σ[i]? = some x ∧ FpS s x a) := by
  obtain ⟨s', x', h1, h2, h3⟩ := h
  by_cases hj : j = i
  · subst hj
    have l1 : j < sl.length := by have := (List.getElem?_eq_some_iff.mp h1).1; rwa [List.length_set] at this
    rw [List.getElem?_set_self l1] at h1
    cases h1
    exact .inr ⟨rfl, x', h2, h3⟩
  · rw [List.getElem?_set_ne (Ne.symm hj)] at h1
    exact .inl ⟨hj, s', x', h1, h2, h3⟩
theorem ownAt_set {σ : St} {sl : List Sl} {i : Nat} {x : Option V} {s : Sl} {a : Addr} (h : OwnAt (σ.set i x) (sl.set i s) a) : OwnAt σ sl a ∨ FpS s x a := by
  obtain ⟨j, h⟩ := h
  rcases fpAt_set h with ⟨_, h⟩ | ⟨_, h⟩
  · exact .inl ⟨j, h⟩
  · exact .inr h
theorem ownAt_setS {σ : St} {sl : List Sl} {i : Nat} {s : Sl} {a : Addr} (h : OwnAt σ (sl.set i s) a) : OwnAt σ sl a ∨ ∃ x, σ[i]? = some x ∧ FpS s x a := by
  obtain ⟨j, h⟩ := h
  rcases fpAt_setS h with ⟨_, h⟩ | ⟨_, h⟩
  · exact .inl ⟨j, h⟩
  · exact .inr h

/-! ## what an expression gives -/
def KdOk (K : PySem.W.Frag) (B : Bs) (σ : St) (sl : List Sl) (S H : Hp) (v : V) : Kd → Prop
  | .st d => Tr K S v d
  | .ls ds => ∃ a xs, v = .ref a ∧ SqL K H a xs ∧ Trs K S xs ds
  | .fr o => ∃ l, v = .ref l ∧ S l = none ∧ B.H0 l = none ∧ OwOk K S H l o ∧ ¬ OwnAt σ sl l
  | .raw u => v = u
  | .at i => σ[i]? = some (some v)
  | .nw d => Tr K H v d
  | .ft d => ∃ fp, TrP K S H fp v d ∧ fp.Nodup ∧ ∀ a ∈ fp, S a = none ∧ B.H0 a = none ∧ ¬ OwnAt σ sl a
section
variable [Tb] {K : PySem.W.Frag} {B : Bs} {S S' H H' : Hp} {σ : St} {sl sl' : List Sl} {p : Bool} {v : V} {k : Kd}
theorem Adv.notS {l : Addr} {u : HO} (a : Adv σ sl S H sl' S' H' p) (h : H l = some u) (n : S l = none) : S' l = none := by
  cases e2 : S' l with
  | none => rfl
  | some o2 => rw [a.n l o2 e2 n] at h; cases h
theorem KdOk.adv (x : KdOk K B σ sl S H v k) (a : Adv σ sl S H sl' S' H' p) (hk : (p || k.firm) = true) : KdOk K B σ sl' S' H' v k := by
  cases k with
  | st d => exact Tr.mono a.s x
  | ls ds =>
    have hp : p = true := by
      cases p with
      | true => rfl
      | false => cases hk
    obtain ⟨b, xs, e, h, t⟩ := x
    exact ⟨b, xs, e, (a.h hp).seq h, t.mono a.s⟩
  | fr o =>
    obtain ⟨l, e, n, n0, ow, na⟩ := x
    obtain ⟨u, eu, nu⟩ := ow.soft
    exact ⟨l, e, a.notS eu n, n0, ow.ext a.s ((a.k l u eu (Hard.nt nu) na).trans eu.symm), fun z => na (a.w l z)⟩
  | raw u => exact x
  | «at» i => exact x
  | nw d =>
    have hp : p = true := by
      cases p with
      | true => rfl
      | false => cases hk
    exact Tr.sam (a.h hp) x
  | ft d =>
    obtain ⟨fp, t, nd, h⟩ := x
    refine ⟨fp, t.ext a.s fun b m => ?_, nd, fun b m => ?_⟩
    · obtain ⟨u, eu, nu⟩ := t.dom b m
      exact (a.k b u eu (Hard.nt nu) (h b m).2.2).trans eu.symm
    · obtain ⟨u, eu, nu⟩ := t.dom b m
      obtain ⟨h1, h2, h3⟩ := h b m
      exact ⟨a.notS eu h1, h2, fun z => h3 (a.w b z)⟩
end
inductive KdsOk (K : PySem.W.Frag) (B : Bs) (σ : St) (sl : List Sl) (S H : Hp) : List V → List Kd → Prop
  | nil : KdsOk K B σ sl S H [] []
  | cons {v : V} {vs : List V} {k : Kd} {ks : List Kd} (h : KdOk K B σ sl S H v k) (t : KdsOk K B σ sl S H vs ks) : KdsOk K B σ sl S H (v :: vs) (k :: ks)
theorem KdsOk.adv [Tb] {K : PySem.W.Frag} {B : Bs} {S S' H H' : Hp} {σ : St} {sl sl' : List Sl} {p : Bool} (a : Adv σ sl S H sl' S' H' p) : ∀ {vs : List V} {ks : List Kd}, KdsOk K B σ sl S H vs ks → (p || ks.all Kd.firm) = true → KdsOk K B σ sl' S' H' vs ks
  | _, _, .nil, _ => .nil
  | _, _, .cons h t, hk => .cons (h.adv a (by
      cases p with
      | true => rfl
      | false => exact (Bool.and_eq_true_iff.mp hk).1)) (KdsOk.adv a t (by
      cases p with
      | true => rfl
      | false => exact (Bool.and_eq_true_iff.mp hk).2))

/-- a new object was not there before -/
def Frs (H : Hp) (v : V) : Kd → Prop
  | .fr _ => ∀ l, v = .ref l → H l = none
  | _ => True
/-! ## where code runs -/
/-- what else is known of a context: the code object, the name that its own lambdas bear, and more -/
structure Xt where
  cd : Value
  ql : Str
  ext : Cx → Prop
structure CxD where
  P : Program
  w : World
  K : PySem.W.Frag
  mg : Str → Option Value
  base : Heap
  N : List Str
  sc : Scope
  lv : Nat
  W : WX
  /-- not within a comprehension -/
  top : Bool
  xt : Xt
structure InCx (c : CxD) (X : Cx) : Prop where
  hP : X.prog = c.P
  hw : X.w = c.w
  hK : X.K = c.K
  hm : X.mg = c.mg
  hb : X.base = c.base
  hN : X.N = c.N
  calm : X.calm = true
  kind : X.env.scope.kind = .function
  gu : X.A.guards = some []
  rm : Room c.lv X.A
  v : ∀ x, Vis c.sc x → Vis X.env.scope x
  l : ∀ x, c.sc.names.lookup x = some .local → X.env.scope.names.lookup x = some .local
  g : ∀ x, c.sc.names.lookup x = some .globalImplicit → Gl X x
  f : ∀ x, c.sc.names.lookup x = some .cell ∨ c.sc.names.lookup x = some .free → X.env.scope.names.lookup x = some .cell ∨ X.env.scope.names.lookup x = some .free
  fn : ∀ x, c.sc.names.lookup x = some .cell → X.env.scope.names.lookup x = some .cell ∧ X.fn x = true
  po : PassesOwn (model X.prog X.w) X.A X.env X.xe
  tk : Takes X c.W
  tp : c.top = true → X.stack = X.env :: X.outer ∧ X.env.frame = some X.env.locals ∧ X.ex = []
  cd : X.env.code = c.xt.cd
  ql : X.env.qual = c.xt.ql
  xt : ∀ pn xe, c.xt.ext (X.tr pn xe)

section
variable [Tb]
/-- e gives k, and the slots are then as sl' says; p: nothing that stood is changed -/
def SemE (K : PySem.W.Frag) (B : Bs) (t : TE) (sl : List Sl) (p : Bool) (k : Kd) (sl' : List Sl) : Prop :=
  ∀ S H σ, Stt K B S H σ sl → ∀ Q : VK, (∀ v S' H', Stt K B S' H' σ sl' → Adv σ sl S H sl' S' H' p → KdOk K B σ sl' S' H' v k → Frs H v k → Q v H') → t σ H Q
def EV (c : CxD) (B : Bs) (e : Expr) (sl : List Sl) (p : Bool) (k : Kd) (sl' : List Sl) : Prop :=
  ∃ t, (∀ X, InCx c X → PE X e t) ∧ SemE c.K B t sl p k sl'
def SemT (K : PySem.W.Frag) (B : Bs) (t : TT) (sl : List Sl) (p : Bool) (b : Bool) (sl' : List Sl) : Prop :=
  ∀ S H σ, Stt K B S H σ sl → ∀ Q : Bool → Hp → Prop, (∀ S' H', Stt K B S' H' σ sl' → Adv σ sl S H sl' S' H' p → Q b H') → t σ H Q
def TV (c : CxD) (B : Bs) (e : Expr) (sl : List Sl) (p : Bool) (b : Bool) (sl' : List Sl) : Prop :=
  ∃ t, (∀ X, InCx c X → PT X e t) ∧ SemT c.K B t sl p b sl'
/-- and, or: a test whatever its whole is -/
def WV (c : CxD) (B : Bs) (e : Expr) (sl : List Sl) (p : Bool) (b : Bool) (sl' : List Sl) : Prop :=
  ∃ t, (∀ X, InCx c X → PW X e t) ∧ SemT c.K B t sl p b sl'
def SemA (K : PySem.W.Frag) (B : Bs) (t : TA) (sl : List Sl) (p : Bool) (ks : List Kd) (sl' : List Sl) : Prop :=
  ∀ S H σ, Stt K B S H σ sl → ∀ Q : List V → Hp → Prop, (∀ vs S' H', Stt K B S' H' σ sl' → Adv σ sl S H sl' S' H' p → KdsOk K B σ sl' S' H' vs ks → Q vs H') → t σ H Q
def AV (c : CxD) (B : Bs) (es : List Expr) (sl : List Sl) (p : Bool) (ks : List Kd) (sl' : List Sl) : Prop :=
  ∃ t, (∀ X, InCx c X → PA X es t) ∧ SemA c.K B t sl p ks sl'
end
end Mw

/-! MwB: the first rules: names, constants, operators, displays, subscripts. -/
namespace Mw
open PySem PySem.Spec L2
variable [Tb]

def Nx (K : PySem.W.Frag) (B : Bs) (σ : St) (sl : List Sl) (S H : Hp) (k : Kd) (Q : VK) : Prop :=
  ∀ v S' H', Stt K B S' H' σ sl → Adv σ sl S H sl S' H' true → KdOk K B σ sl S' H' v k → Frs H v k → Q v H'
section
variable {K : PySem.W.Frag} {B : Bs} {S S' H H' : Hp} {σ : St} {sl sl' : List Sl} {Q : VK} {v : V} {k : Kd} {l : Addr} {b p : Bool}
theorem Frs.back (h : Frs H' v k) (a : Adv σ sl S H sl' S' H' p) : Frs H v k := by
  cases k with
  | fr o =>
    intro l e
    cases e2 : H l with
    | none => rfl
    | some u =>
      obtain ⟨u', e3⟩ := a.d l u e2
      have := h l e
      rw [e3] at this
      cases this
  | _ => trivial
theorem Nx.here (q : Nx K B σ sl S H k Q) (I : Stt K B S H σ sl) (h : KdOk K B σ sl S H v k) (hf : Frs H v k) : Q v H := q v S H I .refl h hf
theorem Nx.st {d : PyData} (q : Nx K B σ sl S H (.st d) Q) (I : Stt K B S H σ sl) (h : Tr K S v d) : Q v H := q v S H I .refl h trivial
theorem Stt.laid2 {o : HO} (I : Stt K B S H σ sl) (hn : H l = none) (ho : Stb o := by trivial) : Stt K B (upd S l o) (upd H l o) σ sl ∧ Adv σ sl S H sl (upd S l o) (upd H l o) true := by
  have hS := (I.notIn hn).1
  have nn : ∀ (a : Addr) (u : HO), upd S l o a = some u → S a = none → H a = none := fun a u h1 h2 => by
    by_cases e : a = l
    · rw [e]; exact hn
    · rw [upd_ne e, h2] at h1
      cases h1
  have s1 : Same S (upd S l o) := same_new hS
  have s2 : Same H (upd H l o) := same_new hn
  refine ⟨I.grow s1 s2 (fun a u e => ?_) nn (noT_upd I.snt ho), s1, nn, fun a u e => ⟨u, s2 _ _ e⟩, fun a u e _ _ => s2 _ _ e, fun _ => same_sam s2, fun _ h => h⟩
  by_cases e1 : a = l
  · rw [e1, upd_same] at e ⊢
    exact e
  · rw [upd_ne e1] at e ⊢
    exact I.sh _ _ e
theorem Nx.fresh {xs : List V} {ds : List PyData} (q : Nx K B σ sl S H (.fr (.lst ds)) Q) (I : Stt K B S H σ sl) (hn : H l = none) (t : Trs K S xs ds) : Q (.ref l) (upd H l (.lst xs)) := by
  obtain ⟨h1, h2, h3⟩ := I.notIn hn
  exact q _ S _ (I.laid hn) (.same (same_new hn)) ⟨l, rfl, h1, h2, ⟨xs, upd_same, t⟩, h3⟩ (fun l' e => by cases e; exact hn)
theorem Nx.ntup {xs : List V} {ds : List PyData} (q : Nx K B σ sl S H (.st (.tuple ds)) Q) (I : Stt K B S H σ sl) (hn : H l = none) (t : Trs K S xs ds) : Q (.ref l) (upd H l (.tup xs)) := by
  obtain ⟨I', a⟩ := I.laid2 (o := .tup xs) hn
  exact q _ _ _ I' a (.tup (.inl (.inl upd_same)) (t.mono a.s)) trivial
theorem Nx.pre (q : Nx K B σ sl S H k Q) (a : Adv σ sl S H sl S' H' true) : Nx K B σ sl S' H' k Q := fun v S2 H2 I2 a2 h hf => q v S2 H2 I2 (a.trans a2) h (hf.back a)
/-- what may be read as a list now -/
def RdL (K : PySem.W.Frag) (S H : Hp) (v : V) (ds : List PyData) : Prop := ∃ a xs, v = .ref a ∧ SqL K H a xs ∧ Trs K S xs ds
end
inductive LsK : Kd → List PyData → Prop
  | st {ds : List PyData} : LsK (.st (.list ds)) ds
  | ls {ds : List PyData} : LsK (.ls ds) ds
  | fr {ds : List PyData} : LsK (.fr (.lst ds)) ds
theorem LsK.rd {K : PySem.W.Frag} {B : Bs} {S H : Hp} {σ : St} {sl : List Sl} {k : Kd} {ds : List PyData} {v : V} (h : LsK k ds) (I : Stt K B S H σ sl) (x : KdOk K B σ sl S H v k) : RdL K S H v ds := by
  cases h with
  | st =>
    obtain ⟨a, xs, e, h1, t⟩ := tr_lst x
    exact ⟨a, xs, e, I.sh.seq h1, t⟩
  | ls => exact x
  | fr =>
    obtain ⟨l, e, _, _, ⟨xs, h1, t⟩, _⟩ := x
    exact ⟨l, xs, e, .inl (.inl h1), t⟩

/-! ## values by rules -/
/-- one value in, one out -/
def US (K : PySem.W.Frag) (r : V → Hp → VK → Prop) (k1 k : Kd) : Prop := ∀ B σ sl S H x, Stt K B S H σ sl → KdOk K B σ sl S H x k1 → ∀ Q, Nx K B σ sl S H k Q → r x H Q
def OS (K : PySem.W.Frag) (r : R2) (k1 k2 k : Kd) : Prop := ∀ B σ sl S H x y, Stt K B S H σ sl → KdOk K B σ sl S H x k1 → KdOk K B σ sl S H y k2 → ∀ Q, Nx K B σ sl S H k Q → r x y H Q
def CS (K : PySem.W.Frag) (r : List V → Hp → VK → Prop) (ks : List Kd) (k : Kd) : Prop := ∀ B σ sl S H vs, Stt K B S H σ sl → KdsOk K B σ sl S H vs ks → ∀ Q, Nx K B σ sl S H k Q → r vs H Q

section
variable {c : CxD} {B : Bs} {e a b : Expr} {es : List Expr} {sl sl1 sl2 sl3 : List Sl} {p q r : Bool} {k k1 k2 : Kd} {ks : List Kd} {pos p1 : Pos} {d : PyData} {ds : List PyData} {t : Bool}
theorem fin {K : PySem.W.Frag} {S0 H0 S H : Hp} {σ : St} {sl0 : List Sl} {p' : Bool} {Q : VK} (h : ∀ v S' H', Stt K B S' H' σ sl → Adv σ sl0 S0 H0 sl S' H' p → KdOk K B σ sl S' H' v k → Frs H0 v k → Q v H') (a : Adv σ sl0 S0 H0 sl S H p') (hp : p = true → p' = true) : Nx K B σ sl S H k Q :=
  fun v S' H' I' a' x f => h v S' H' I' ((a.trans a').weak fun e => by rw [hp e]; rfl) x (f.back a)

/-! ### names and constants -/
theorem InCx.vis {X : Cx} (h : InCx c X) {x : Str} (hv : c.sc.names.lookup x = some .local ∨ c.sc.names.lookup x = some .cell ∨ c.sc.names.lookup x = some .free) : Vis X.env.scope x := h.v x hv
theorem ev_val (i : Nat) {x : Str} (hd : sl[i]? = some (.val d) := by rfl) (hN : c.N[i]? = some x := by rfl) (hv : Vis c.sc x := by first | exact .inl rfl | exact .inr (.inl rfl) | exact .inr (.inr rfl))
    (h1 : (x == ("__debug__" : Str)) = false := by decide) (h2 : (x == ("__classdict__" : Str)) = false := by decide) : EV c B (.Name x pos) sl true (.st d) sl :=
  ⟨tVar i, fun X hX => pe_var (by rw [hX.hN]; exact hN) (hX.v x hv) h1 h2, fun S H σ I Q q => by
    obtain ⟨v, e, t⟩ := I.val hd
    exact ⟨v, e, q v S H I .refl t trivial⟩⟩
theorem ev_raw (i : Nat) {x : Str} {v : V} (hd : sl[i]? = some (.raw v) := by rfl) (hN : c.N[i]? = some x := by rfl) (hv : Vis c.sc x := by first | exact .inl rfl | exact .inr (.inl rfl) | exact .inr (.inr rfl))
    (h1 : (x == ("__debug__" : Str)) = false := by decide) (h2 : (x == ("__classdict__" : Str)) = false := by decide) : EV c B (.Name x pos) sl true (.raw v) sl :=
  ⟨tVar i, fun X hX => pe_var (by rw [hX.hN]; exact hN) (hX.v x hv) h1 h2, fun S H σ I Q q => ⟨v, I.raw hd, q v S H I .refl rfl trivial⟩⟩
/-- a list that changes, read as it is now -/
theorem ev_own (i : Nat) {x : Str} {s : Sl} (hd : sl[i]? = some s := by rfl) (ho : s.ow = some (.lst ds) := by rfl) (hN : c.N[i]? = some x := by rfl) (hv : Vis c.sc x := by first | exact .inl rfl | exact .inr (.inl rfl) | exact .inr (.inr rfl))
    (h1 : (x == ("__debug__" : Str)) = false := by decide) (h2 : (x == ("__classdict__" : Str)) = false := by decide) : EV c B (.Name x pos) sl true (.ls ds) sl :=
  ⟨tVar i, fun X hX => pe_var (by rw [hX.hN]; exact hN) (hX.v x hv) h1 h2, fun S H σ I Q q => by
    obtain ⟨l, e, n, xs, h3, t⟩ := I.own hd ho
    exact ⟨_, e, q _ S H I .refl ⟨l, xs, rfl, .inl (.inl h3), t⟩ trivial⟩⟩
theorem ev_int {i : Int} {j : Nat} : EV c B (.Constant (.int i) j pos) sl true (.st (.int i)) sl := ⟨_, fun _ _ => pe_int, fun S H σ I Q q => q _ S H I .refl (.int i) trivial⟩
theorem ev_bl {i : Bool} {j : Nat} : EV c B (.Constant (.bool i) j pos) sl true (.st (.bool i)) sl := ⟨_, fun _ _ => pe_bl, fun S H σ I Q q => q _ S H I .refl (.bl i) trivial⟩
theorem ev_non {j : Nat} : EV c B (.Constant .none j pos) sl true (.st .none) sl := ⟨_, fun _ _ => pe_non, fun S H σ I Q q => q _ S H I .refl .non trivial⟩
theorem ev_str {i : Str} {j : Nat} : EV c B (.Constant (.str i) j pos) sl true (.st (.str i)) sl := ⟨_, fun _ _ => pe_str, fun S H σ I Q q => q _ S H I .refl (.str i) trivial⟩
theorem InCx.gl {X : Cx} (h : InCx c X) {x : Str} (hv : c.sc.names.lookup x = some .globalImplicit) : Gl X x := h.g x hv
/-- a constant of the module, a whole number -/
theorem ev_gint {x : Str} {i : Int} (hm : ∃ t, c.mg x = some (.int i t)) (hg : c.sc.names.lookup x = some .globalImplicit := by rfl) (h1 : (x == ("__debug__" : Str)) = false := by decide) : EV c B (.Name x pos) sl true (.st (.int i)) sl := by
  obtain ⟨t, hm⟩ := hm
  exact ⟨_, fun X hX => pe_glob (v := .int i) (hX.g x hg) (by rw [hX.hm]; exact hm) ⟨t, rfl⟩ h1, fun S H σ I Q q => q _ S H I .refl (.int i) trivial⟩
theorem ev_gref {x : Str} {f : Addr} (hm : c.mg x = some (.ref f)) (hg : c.sc.names.lookup x = some .globalImplicit := by rfl) (h1 : (x == ("__debug__" : Str)) = false := by decide) : EV c B (.Name x pos) sl true (.raw (.ref f)) sl :=
  ⟨_, fun X hX => pe_glob (v := .ref f) (hX.g x hg) (by rw [hX.hm]; exact hm) rfl h1, fun S H σ I Q q => q _ S H I .refl rfl trivial⟩
theorem ev_gty {x : Str} {n : String} (hm : c.mg x = none) (hv : bootBuiltins x = some (.type n)) (hg : c.sc.names.lookup x = some .globalImplicit := by rfl) (hn : x ≠ "__name__" := by decide) (h1 : (x == ("__debug__" : Str)) = false := by decide) :
    EV c B (.Name x pos) sl true (.raw (.ty n)) sl :=
  ⟨_, fun X hX => pe_bltn (v := .ty n) (hX.g x hg) (by rw [hX.hm]; exact hm) hv rfl hn h1, fun S H σ I Q q => q _ S H I .refl rfl trivial⟩

/-! ### changing what is said -/
theorem EV.to (h : EV c B e sl p k sl1) {k' : Kd} (hk : k = k') : EV c B e sl p k' sl1 := hk ▸ h
theorem EV.im (h : EV c B e sl p k sl1) (hp : q = true → p = true := by intro h; first | rfl | cases h) : EV c B e sl q k sl1 := by
  obtain ⟨t, ht, hs⟩ := h
  exact ⟨t, ht, fun S H σ I Q q => hs S H σ I Q fun v S' H' I' a x f => q v S' H' I' (a.weak hp) x f⟩
/-- a new list that will not change any more -/
theorem EV.fz (h : EV c B e sl p (.fr (.lst ds)) sl1) : EV c B e sl p (.st (.list ds)) sl1 := by
  obtain ⟨t, ht, hs⟩ := h
  refine ⟨t, ht, fun S H σ I Q q => hs S H σ I Q fun v S' H' I' a x f => ?_⟩
  obtain ⟨l, rfl, n, n0, ⟨xs, e, tr⟩, na⟩ := x
  have nH : H l = none := f l rfl
  have s1 : Same S' (upd S' l (.lst xs)) := same_new n
  have sH : Same (upd S' l (.lst xs)) H' := fun b u e1 => by
    by_cases eb : b = l
    · rw [eb, upd_same] at e1
      rw [eb, e]
      exact e1
    · rw [upd_ne eb] at e1
      exact I'.sh _ _ e1
  have nw : ∀ (b : Addr) (u : HO), upd S' l (.lst xs) b = some u → S b = none → H b = none := fun b u e1 e2 => by
    by_cases eb : b = l
    · rw [eb]; exact nH
    · rw [upd_ne eb] at e1
      exact a.n b u e1 e2
  refine q _ (upd S' l (.lst xs)) H' ⟨I'.s0.trans s1, sH, fun b u e1 e2 => ?_, I'.keep, I'.dom, I'.lsd, I'.len, fun i s' es => ?_, I'.dis, I'.tabs, I'.tbk, noT_upd I'.snt trivial, I'.sm⟩ ⟨a.s.trans s1, nw, a.d, a.k, a.h, a.w⟩ (.lst (.inl (.inl upd_same)) (tr.mono s1)) trivial
  · by_cases eb : b = l
    · rw [eb]; exact n0
    · rw [upd_ne eb] at e1
      exact I'.new b u e1 e2
  · obtain ⟨x, hx, ok⟩ := I'.slot i s' es
    refine ⟨x, hx, ok.ext s1 (fun _ _ => rfl) fun b m => ?_⟩
    rw [upd_ne fun z => na ⟨i, s', x, es, hx, by rw [← z]; exact m⟩]
    exact (ok.fp m).1

/-! ### operators -/
theorem ev_bin {op : Operator} {r : R2} (ho : ∀ X, InCx c X → OpR X (binaryOp op) r) (hs : OS c.K r k1 k2 k) (ha : EV c B a sl p k1 sl1) (hb : EV c B b sl1 q k2 sl2) (hk : (q || k1.firm) = true := by rfl) :
    EV c B (.BinOp a op b pos) sl (p && q) k sl2 := by
  obtain ⟨ta, ha, sa⟩ := ha
  obtain ⟨tb, hb, sb⟩ := hb
  refine ⟨tOp r ta tb, fun X hX => pe_op (ho X hX) (ha X hX) (hb X hX), fun S H σ I Q fn => ?_⟩
  refine sa S H σ I _ fun x S1 H1 I1 a1 x1 f1 => sb S1 H1 σ I1 _ fun y S2 H2 I2 a2 x2 f2 => ?_
  exact hs B σ sl2 S2 H2 x y I2 (x1.adv a2 hk) x2 Q (Mw.fin fn (a1.trans a2) fun h => h)
/-- a comparison: as a value and as a test -/
def CM (c : CxD) (B : Bs) (op : CmpOp) (a b : Expr) (sl : List Sl) (p t : Bool) (sl' : List Sl) : Prop :=
  ∃ te, (∀ X pos, InCx c X → PE X (.Compare a [op] [b] pos) te ∧ PT X (.Compare a [op] [b] pos) (tB te)) ∧ SemE c.K B te sl p (.st (.bool t)) sl'
theorem CM.ev {op : CmpOp} (h : CM c B op a b sl p t sl1) : EV c B (.Compare a [op] [b] pos) sl p (.st (.bool t)) sl1 := by
  obtain ⟨te, h, hs⟩ := h
  exact ⟨te, fun X hX => (h X pos hX).1, hs⟩
theorem CM.tv {op : CmpOp} (h : CM c B op a b sl p t sl1) : TV c B (.Compare a [op] [b] pos) sl p t sl1 := by
  obtain ⟨te, h, hs⟩ := h
  exact ⟨tB te, fun X hX => (h X pos hX).2, fun S H σ I Q q => hs S H σ I _ fun v S1 H1 I1 a1 x1 _ => ⟨t, tr_bl x1, q S1 H1 I1 a1⟩⟩
theorem CM.to {op : CmpOp} {u : Bool} (h : CM c B op a b sl p t sl1) (e : t = u) : CM c B op a b sl p u sl1 := e ▸ h
theorem cm_of {op : CmpOp} {r : R2} (ho : ∀ X, InCx c X → OpR X (compareOp op) r) (hm : behindInMarks op b = false) (hs : OS c.K r k1 k2 (.st (.bool t))) (ha : EV c B a sl p k1 sl1) (hb : EV c B b sl1 q k2 sl2) (hk : (q || k1.firm) = true := by rfl) :
    CM c B op a b sl (p && q) t sl2 := by
  obtain ⟨ta, ha, sa⟩ := ha
  obtain ⟨tb, hb, sb⟩ := hb
  refine ⟨tOp r ta tb, fun X pos hX => ⟨pe_cmpR (ho X hX) (ha X hX) (hb X hX) hm, pt_cmpR (ho X hX) (ha X hX) (hb X hX) hm⟩, fun S H σ I Q fn => ?_⟩
  refine sa S H σ I _ fun x S1 H1 I1 a1 x1 f1 => sb S1 H1 σ I1 _ fun y S2 H2 I2 a2 x2 f2 => ?_
  exact hs B σ sl2 S2 H2 x y I2 (x1.adv a2 hk) x2 Q (Mw.fin fn (a1.trans a2) fun h => h)
theorem ev_un {op : UnaryOp} {r : V → Hp → VK → Prop} (ho : ∀ X, InCx c X → UnR X (unaryOp op) r) (hs : US c.K r k1 k) (ha : EV c B a sl p k1 sl1) : EV c B (.UnaryOp op a pos) sl p k sl1 := by
  obtain ⟨ta, ha, sa⟩ := ha
  refine ⟨tUn r ta, fun X hX => pe_un (ho X hX) (ha X hX), fun S H σ I Q fn => ?_⟩
  exact sa S H σ I _ fun x S1 H1 I1 a1 x1 f1 => hs B σ sl1 S1 H1 x I1 x1 Q (Mw.fin fn a1 fun h => h)
end
/-- two numbers in, a flat thing out -/
theorem os_II {K : PySem.W.Frag} {C : Int → Int → Prop} {g : Int → Int → V} {i j : Int} {d : PyData} (hc : C i j) (hd : ∀ S, Tr K S (g i j) d) : OS K (rI C g) (.st (.int i)) (.st (.int j)) (.st d) :=
  fun B σ sl S H x y I hx hy Q q => ⟨i, j, tr_int hx, tr_int hy, hc, q.st I (hd S)⟩
theorem os_I0 {K : PySem.W.Frag} {g : Int → Int → V} {i j : Int} {d : PyData} (hd : ∀ S, Tr K S (g i j) d) : OS K (rI0 g) (.st (.int i)) (.st (.int j)) (.st d) :=
  fun B σ sl S H x y I hx hy Q q => ⟨i, j, tr_int hx, tr_int hy, q.st I (hd S)⟩
theorem tr_flat {K : PySem.W.Frag} {S : Hp} {v : V} {d : PyData} (h : Tr K S v d) (f : flatD d = true) : v = toV d := by
  cases h <;> first | rfl | cases f
section
variable {c : CxD} {B : Bs} {e a b : Expr} {es : List Expr} {sl sl1 sl2 sl3 : List Sl} {p q r : Bool} {k k1 k2 : Kd} {ks : List Kd} {pos p1 : Pos} {d : PyData} {ds es' : List PyData} {i j : Int}
theorem ev_add (ha : EV c B a sl p (.st (.int i)) sl1) (hb : EV c B b sl1 q (.st (.int j)) sl2) : EV c B (.BinOp a .Add b pos) sl (p && q) (.st (.int (i + j))) sl2 :=
  ev_bin (fun _ _ => op_add) (os_I0 fun S => .int _) ha hb (by simp [Kd.firm])
theorem ev_sub (ha : EV c B a sl p (.st (.int i)) sl1) (hb : EV c B b sl1 q (.st (.int j)) sl2) : EV c B (.BinOp a .Sub b pos) sl (p && q) (.st (.int (i - j))) sl2 :=
  ev_bin (fun _ _ => op_sub) (os_I0 fun S => .int _) ha hb (by simp [Kd.firm])
theorem ev_mul (ha : EV c B a sl p (.st (.int i)) sl1) (hb : EV c B b sl1 q (.st (.int j)) sl2) (hc : CMulW i j) : EV c B (.BinOp a .Mult b pos) sl (p && q) (.st (.int (i * j))) sl2 :=
  ev_bin (fun _ _ => op_mulW) (os_II hc fun S => .int _) ha hb (by simp [Kd.firm])
theorem ev_mod (ha : EV c B a sl p (.st (.int i)) sl1) (hb : EV c B b sl1 q (.st (.int j)) sl2) (hc : 0 < j) : EV c B (.BinOp a .Mod b pos) sl (p && q) (.st (.int (i % j))) sl2 :=
  ev_bin (fun _ _ => op_mod) (os_II hc fun S => .int _) ha hb (by simp [Kd.firm])
theorem ev_div (ha : EV c B a sl p (.st (.int i)) sl1) (hb : EV c B b sl1 q (.st (.int j)) sl2) (hc : 0 < j ∧ j < 1073741824) : EV c B (.BinOp a .FloorDiv b pos) sl (p && q) (.st (.int (i / j))) sl2 :=
  ev_bin (fun _ _ => op_fdiv) (os_II hc fun S => .int _) ha hb (by simp [Kd.firm])
def CPowW (i j : Int) : Prop := 0 ≤ j ∧ (Builtin.Int.intBits i : Int) * j ≤ 2 ^ 27
theorem op_powW {X : Cx} : OpR X (binaryOp .Pow) (rI CPowW fun i j => .int (i ^ j.toNat)) := opI fun _ _ _ _ _ _ _ hc q => PyProof.Rows.pow_int hc.1 hc.2 q
theorem ev_pow (ha : EV c B a sl p (.st (.int i)) sl1) (hb : EV c B b sl1 q (.st (.int j)) sl2) (hc : CPowW i j) : EV c B (.BinOp a .Pow b pos) sl (p && q) (.st (.int (i ^ j.toNat))) sl2 :=
  ev_bin (fun _ _ => op_powW) (os_II hc fun S => .int _) ha hb (by simp [Kd.firm])
theorem ev_neg (ha : EV c B a sl p (.st (.int i)) sl1) : EV c B (.UnaryOp .USub a pos) sl p (.st (.int (-i))) sl1 :=
  ev_un (k1 := .st (.int i)) (r := rU fun i => .int (-i)) (fun _ _ => un_neg) (fun B σ sl S H x I hx Q q => ⟨i, tr_int hx, q.st I (.int _)⟩) ha
theorem cm_lt (ha : EV c B a sl p (.st (.int i)) sl1) (hb : EV c B b sl1 q (.st (.int j)) sl2) : CM c B .Lt a b sl (p && q) (decide (i < j)) sl2 :=
  cm_of (fun _ _ => op_lt) (nobehind _ (by decide) (by decide)) (os_I0 fun S => .bl _) ha hb (by simp [Kd.firm])
theorem cm_le (ha : EV c B a sl p (.st (.int i)) sl1) (hb : EV c B b sl1 q (.st (.int j)) sl2) : CM c B .LtE a b sl (p && q) (decide (i ≤ j)) sl2 :=
  cm_of (fun _ _ => op_le) (nobehind _ (by decide) (by decide)) (os_I0 fun S => .bl _) ha hb (by simp [Kd.firm])
theorem cm_gt (ha : EV c B a sl p (.st (.int i)) sl1) (hb : EV c B b sl1 q (.st (.int j)) sl2) : CM c B .Gt a b sl (p && q) (decide (j < i)) sl2 :=
  cm_of (fun _ _ => op_gt) (nobehind _ (by decide) (by decide)) (os_I0 fun S => .bl _) ha hb (by simp [Kd.firm])
theorem cm_ge (ha : EV c B a sl p (.st (.int i)) sl1) (hb : EV c B b sl1 q (.st (.int j)) sl2) : CM c B .GtE a b sl (p && q) (decide (j ≤ i)) sl2 :=
  cm_of (fun _ _ => op_ge) (nobehind _ (by decide) (by decide)) (os_I0 fun S => .bl _) ha hb (by simp [Kd.firm])
theorem cm_eqI (ha : EV c B a sl p (.st (.int i)) sl1) (hb : EV c B b sl1 q (.st (.int j)) sl2) : CM c B .Eq a b sl (p && q) (decide (i = j)) sl2 :=
  cm_of (r := rEq) (fun _ _ => op_eq) (nobehind _ (by decide) (by decide)) (fun B σ sl S H x y I hx hy Q q => by
    cases tr_int hx
    cases tr_int hy
    refine ⟨rfl, q.st I ?_⟩
    have e : decide (V.int i = V.int j) = decide (i = j) := by
      by_cases h : i = j
      · rw [h]; simp
      · rw [decide_eq_false h, decide_eq_false fun z => h (V.int.inj z)]
    rw [e]
    exact .bl _) ha hb (by simp [Kd.firm])
theorem cm_neI (ha : EV c B a sl p (.st (.int i)) sl1) (hb : EV c B b sl1 q (.st (.int j)) sl2) : CM c B .NotEq a b sl (p && q) (!decide (i = j)) sl2 :=
  cm_of (r := rNe) (fun _ _ => op_ne) (nobehind _ (by decide) (by decide)) (fun B σ sl S H x y I hx hy Q q => by
    cases tr_int hx
    cases tr_int hy
    refine ⟨rfl, q.st I ?_⟩
    have e : decide (V.int i = V.int j) = decide (i = j) := by
      by_cases h : i = j
      · rw [h]; simp
      · rw [decide_eq_false h, decide_eq_false fun z => h (V.int.inj z)]
    rw [e]
    exact .bl _) ha hb (by simp [Kd.firm])
/-- two texts -/
theorem cm_eqS {x y : Str} (ha : EV c B a sl p (.st (.str x)) sl1) (hb : EV c B b sl1 q (.st (.str y)) sl2) : CM c B .Eq a b sl (p && q) (decide (x = y)) sl2 :=
  cm_of (r := rEq) (fun _ _ => op_eq) (nobehind _ (by decide) (by decide)) (fun B σ sl S H u w I hx hy Q q => by
    cases tr_str hx
    cases tr_str hy
    refine ⟨rfl, q.st I ?_⟩
    have e : decide (V.str x = V.str y) = decide (x = y) := by
      by_cases h : x = y
      · rw [h]; simp
      · rw [decide_eq_false h, decide_eq_false fun z => h (V.str.inj z)]
    rw [e]
    exact .bl _) ha hb (by simp [Kd.firm])
theorem cm_neS {x y : Str} (ha : EV c B a sl p (.st (.str x)) sl1) (hb : EV c B b sl1 q (.st (.str y)) sl2) : CM c B .NotEq a b sl (p && q) (!decide (x = y)) sl2 :=
  cm_of (r := rNe) (fun _ _ => op_ne) (nobehind _ (by decide) (by decide)) (fun B σ sl S H u w I hx hy Q q => by
    cases tr_str hx
    cases tr_str hy
    refine ⟨rfl, q.st I ?_⟩
    have e : decide (V.str x = V.str y) = decide (x = y) := by
      by_cases h : x = y
      · rw [h]; simp
      · rw [decide_eq_false h, decide_eq_false fun z => h (V.str.inj z)]
    rw [e]
    exact .bl _) ha hb (by simp [Kd.firm])
/-- is None -/
def isNonD : PyData → Bool
  | .none => true
  | _ => false
theorem tr_isN {K : PySem.W.Frag} {S : Hp} {v : V} (h : Tr K S v d) : decide (v = .non) = isNonD d := by
  cases h <;> first | rfl | exact decide_eq_false (by intro z; cases z)
theorem cm_isN {j : Nat} (ha : EV c B a sl p (.st d) sl1) : CM c B .Is a (.Constant .none j p1) sl p (isNonD d) sl1 := by
  obtain ⟨ta, ha, sa⟩ := ha
  refine ⟨tIsN ta, fun X pos hX => ⟨pe_cmp (pc_isN (ha X hX)) rfl, pt_cmp (pc_isN (ha X hX)) rfl⟩, fun S H σ I Q fn => ?_⟩
  refine sa S H σ I _ fun x S1 H1 I1 a1 x1 f1 => ?_
  rw [tr_isN x1]
  exact fn _ S1 H1 I1 a1 (.bl _) trivial
theorem cm_notN {j : Nat} (ha : EV c B a sl p (.st d) sl1) : CM c B .IsNot a (.Constant .none j p1) sl p (!isNonD d) sl1 := by
  obtain ⟨ta, ha, sa⟩ := ha
  refine ⟨tNotN ta, fun X pos hX => ⟨pe_cmp (pc_notN (ha X hX)) rfl, pt_cmp (pc_notN (ha X hX)) rfl⟩, fun S H σ I Q fn => ?_⟩
  refine sa S H σ I _ fun x S1 H1 I1 a1 x1 f1 => ?_
  rw [tr_isN x1]
  exact fn _ S1 H1 I1 a1 (.bl _) trivial

/-! ### argument lists and displays -/
theorem av_nil : AV c B [] sl true [] sl := ⟨tNil, fun _ _ => pa_nil, fun S H σ I Q q => q [] S H I .refl .nil⟩
theorem av_cons (ha : EV c B e sl p k sl1) (hr : AV c B es sl1 q ks sl2) (hk : (q || k.firm) = true := by rfl) (hs : ∀ env, starEach (e :: es) env = (false, eval e env) :: starEach es env := by intro env; rfl) : AV c B (e :: es) sl (p && q) (k :: ks) sl2 := by
  obtain ⟨ta, ha, sa⟩ := ha
  obtain ⟨tb, hb, sb⟩ := hr
  refine ⟨tCons ta tb, fun X hX => pa_cons (ha X hX) (hb X hX) (hs _), fun S H σ I Q fn => ?_⟩
  refine sa S H σ I _ fun x S1 H1 I1 a1 x1 f1 => sb S1 H1 σ I1 _ fun vs S2 H2 I2 a2 x2 => ?_
  exact fn _ S2 H2 I2 (a1.trans a2) (.cons (x1.adv a2 hk) x2)
/-- all stay -/
inductive Sts : List Kd → List PyData → Prop
  | nil : Sts [] []
  | cons {d : PyData} {ks : List Kd} {ds : List PyData} (t : Sts ks ds) : Sts (.st d :: ks) (d :: ds)
theorem Sts.trs {K : PySem.W.Frag} {S H : Hp} {σ : St} : ∀ {ks : List Kd} {ds : List PyData} {vs : List V}, Sts ks ds → KdsOk K B σ sl S H vs ks → Trs K S vs ds
  | _, _, _, .nil, .nil => .nil
  | _, _, _, .cons t, .cons h t2 => .cons h (Sts.trs t t2)
theorem ev_lst (ha : AV c B es sl p ks sl1) (hs : Sts ks ds) (hl : ds.length ≤ 1000000 := by exact Nat.le_of_ble_eq_true rfl) : EV c B (.List es pos) sl p (.fr (.lst ds)) sl1 := by
  obtain ⟨ta, ha, sa⟩ := ha
  refine ⟨tLst ta, fun X hX => pe_lst (ha X hX), fun S H σ I Q fn => ?_⟩
  refine sa S H σ I _ fun vs S1 H1 I1 a1 x1 => ?_
  have t := hs.trs x1
  refine ⟨by rw [t.len]; exact Nat.le_trans hl (by decide), fun l hn => ?_⟩
  exact (Mw.fin fn a1 fun h => h).fresh I1 hn t
theorem ev_tup {x1 : Nat} (ha : AV c B es sl p ks sl1) (hs : Sts ks ds) (hl : ds.length ≤ 1000000 := by exact Nat.le_of_ble_eq_true rfl) : EV c B (.Tuple es x1 pos) sl p (.st (.tuple ds)) sl1 := by
  obtain ⟨ta, ha, sa⟩ := ha
  refine ⟨tTup ta, fun X hX => pe_tup (ha X hX), fun S H σ I Q fn => ?_⟩
  refine sa S H σ I _ fun vs S1 H1 I1 a1 x1 => ?_
  have t := hs.trs x1
  refine ⟨by rw [t.len]; exact Nat.le_trans hl (by decide), fun l hn => ?_⟩
  exact (Mw.fin fn a1 fun h => h).ntup I1 hn t

/-! ### subscripts -/
theorem ev_ix {i : Int} (ha : EV c B a sl p k1 sl1) (hb : EV c B b sl1 q (.st (.int i)) sl2) (hl : LsK k1 ds := by first | exact .st | exact .ls | exact .fr) (hd : atI ds i = some d) (hs : PlainIx b := by exact fun _ _ => rfl) (hk : (q || k1.firm) = true := by first | rfl | (simp [Kd.firm])) : EV c B (.Subscript a b pos) sl (p && q) (.st d) sl2 := by
  obtain ⟨ta, ha, sa⟩ := ha
  obtain ⟨tb, hb, sb⟩ := hb
  refine ⟨tOp (rIxL c.K) ta tb, fun X hX => pe_ix (by rw [← hX.hK]; exact ix_list) (ha X hX) (hb X hX) hs, fun S H σ I Q fn => ?_⟩
  refine sa S H σ I _ fun x S1 H1 I1 a1 x1 f1 => sb S1 H1 σ I1 _ fun y S2 H2 I2 a2 x2 f2 => ?_
  obtain ⟨l, xs, rfl, hq, t⟩ := hl.rd I2 (x1.adv a2 hk)
  have hi := hd
  unfold atI at hi
  obtain ⟨j, hj, hj2⟩ := Option.bind_eq_some_iff.mp hi
  obtain ⟨v, hv, tv⟩ := t.get hj2
  refine ⟨l, xs, i, v, rfl, tr_int x2, hq, ?_, fn v S2 H2 I2 (a1.trans a2) tv trivial⟩
  unfold atI
  rw [t.len, hj]
  exact hv
theorem ev_ixT {i : Int} (ha : EV c B a sl p (.st (.tuple ds)) sl1) (hb : EV c B b sl1 q (.st (.int i)) sl2) (hd : atI ds i = some d) (hs : PlainIx b := by exact fun _ _ => rfl) : EV c B (.Subscript a b pos) sl (p && q) (.st d) sl2 := by
  obtain ⟨ta, ha, sa⟩ := ha
  obtain ⟨tb, hb, sb⟩ := hb
  refine ⟨tOp (rIxT c.K) ta tb, fun X hX => pe_ix (by rw [← hX.hK]; exact ix_tup) (ha X hX) (hb X hX) hs, fun S H σ I Q fn => ?_⟩
  refine sa S H σ I _ fun x S1 H1 I1 a1 x1 f1 => sb S1 H1 σ I1 _ fun y S2 H2 I2 a2 x2 f2 => ?_
  obtain ⟨l, xs, rfl, hq, t⟩ := tr_tup (x1.adv a2 (by simp [Kd.firm]))
  have hi := hd
  unfold atI at hi
  obtain ⟨j, hj, hj2⟩ := Option.bind_eq_some_iff.mp hi
  obtain ⟨v, hv, tv⟩ := t.get hj2
  refine ⟨l, xs, i, v, rfl, tr_int x2, Sam.sqt (same_sam I2.sh) hq, ?_, fn v S2 H2 I2 (a1.trans a2) tv trivial⟩
  unfold atI
  rw [t.len, hj]
  exact hv
end
end Mw

/-! MwC: calls of built-ins, repr, ==, in, slices, list operators. -/
namespace Mw
open PySem PySem.Spec L2
variable [Tb]

section
variable {X : Cx} {pins : List (Addr × Obj)} {σ : L2.St} {H : Hp} {s : Shared}
mutual
theorem Tr.reads (I : Inv X pins σ H s) : ∀ {d : PyData} {v : V} {u : Value}, Tr X.K H v d → d.hasDict = false → RelV v u → ∃ as, Reads s.heap u d as
  | .none, _, _, h, _, r => by cases h; cases r; exact ⟨_, .none⟩
  | .bool b, _, _, h, _, r => by cases h; cases r; exact ⟨_, .bool b⟩
  | .int i, _, _, h, _, r => by cases h; obtain ⟨t, rfl⟩ := r; exact ⟨_, .int i t⟩
  | .str x, _, _, h, _, r => by cases h; obtain ⟨t, rfl⟩ := r; exact ⟨_, .str x t⟩
  | .list ds, _, _, h, hd, r => by
    cases h with
    | lst hs ha =>
      cases r
      obtain ⟨its, rv, ⟨o, n, ho, hc, _, hdt⟩, _⟩ := I.list hs
      obtain ⟨as, hr⟩ := Trs.reads I ha (by simpa [PyData.hasDict] using hd) rv
      exact ⟨_, .list ho hc hdt hr⟩
  | .tuple ds, _, _, h, hd, r => by
    cases h with
    | tup hs ha =>
      cases r
      obtain ⟨its, rv, ⟨o, ho, hc, n, hdt⟩, _⟩ := I.tuple hs
      obtain ⟨as, hr⟩ := Trs.reads I ha (by simpa [PyData.hasDict] using hd) rv
      exact ⟨_, .tuple ho hc hdt hr⟩
  | .dict _, _, _, _, hd, _ => by simp [PyData.hasDict] at hd
theorem Trs.reads (I : Inv X pins σ H s) : ∀ {ds : List PyData} {vs : List V} {us : List Value}, Trs X.K H vs ds → PyData.hasDictAll ds = false → Vals vs us → ∃ as, ReadsAll s.heap us ds as
  | [], _, _, h, _, r => by cases h; cases r; exact ⟨_, .nil⟩
  | d :: ds, _, _, h, hd, r => by
    cases h with
    | cons h1 h2 =>
      cases r with
      | cons r1 r2 =>
        have hd2 : d.hasDict = false ∧ PyData.hasDictAll ds = false := by simpa [PyData.hasDictAll] using hd
        obtain ⟨as, q1⟩ := Tr.reads I h1 hd2.1 r1
        obtain ⟨bs, q2⟩ := Trs.reads I h2 hd2.2 r2
        exact ⟨_, .cons q1 q2⟩
end
end

/-! ### how long a thing is when it is written -/
structure Rk (b n : Nat) (d : PyData) : Prop where
  sh : d.showable = true
  nd : d.hasDict = false
  dp : d.depth ≤ b
  sz : d.shown.length ≤ n
theorem Rk.mono {b n b' n' : Nat} {d : PyData} (h : Rk b n d) (hb : b ≤ b') (hn : n ≤ n') : Rk b' n' d := ⟨h.sh, h.nd, Nat.le_trans h.dp hb, Nat.le_trans h.sz hn⟩
theorem Rk.none : Rk 0 5 .none := ⟨rfl, rfl, Nat.zero_le _, by decide +kernel⟩
theorem Rk.bool {b : Bool} : Rk 0 5 (.bool b) := ⟨rfl, rfl, Nat.zero_le _, by cases b <;> decide +kernel⟩
theorem int_shown {i : Int} {k : Nat} (hk : 0 < k) (h : i.natAbs < 2 ^ k) : (PyData.shown (.int i)).length ≤ k + 1 := by
  have e : (PyData.shown (.int i)) = Str.ofString (toString i) := rfl
  rw [e, ofString_length]
  cases i with
  | ofNat n =>
    have h1 := nat_repr_length_le (n := n) hk (by simpa using h)
    show (Nat.repr n).length ≤ k + 1
    omega
  | negSucc n =>
    have h1 := nat_repr_length_le (n := n + 1) hk (by simpa using h)
    show ("-" ++ Nat.repr (n + 1)).length ≤ k + 1
    rw [String.length_append]
    show 1 + _ ≤ _
    omega
theorem Rk.int {i : Int} (h : i.natAbs < 2 ^ 100) : Rk 0 101 (.int i) := by
  refine ⟨?_, rfl, Nat.zero_le _, int_shown (by decide) h⟩
  show decide _ = true
  refine decide_eq_true ?_
  have h2 : i.natAbs.log2 < 100 := PySem.Flt.log2_lt_of (by decide) h
  omega
theorem piled_le {n : Nat} : ∀ (ts : List Str), (∀ t ∈ ts, t.length ≤ n) → piled ts ≤ ts.length * (n + 2)
  | [], _ => by simp [piled]
  | t :: r, h => by
    have ih := piled_le r fun x hx => h x (List.mem_cons_of_mem _ hx)
    have h1 := h t List.mem_cons_self
    rw [piled_cons, List.length_cons, Nat.add_mul, Nat.one_mul]
    omega
theorem listText_le (ts : List Str) : (listText ts).length ≤ piled ts + 2 := by
  cases ts with
  | nil => decide +kernel
  | cons t r =>
    have h := textFrom_length_pos r 1 (("[" : Str) ++ (if (0 : Nat) > 0 then ", " else "" : String) ++ t) (Nat.succ_pos 0)
    have e : ((("[" : Str) ++ (if (0 : Nat) > 0 then ", " else "" : String) ++ t)).length = 1 + t.length := by
      rw [strLen_append, strLen_append]; rfl
    have hX : (listText (t :: r)).length = (textFrom 1 (("[" : Str) ++ (if (0 : Nat) > 0 then ", " else "" : String) ++ t) r).length + 1 := by
      show (textFrom 0 "[" (t :: r) ++ "]").length = _
      rw [strLen_append]; rfl
    rw [hX, h, e, piled_cons]
    omega
theorem tupleText_le (ts : List Str) : (tupleText ts).length ≤ piled ts + 3 := by
  unfold tupleText
  rw [strLen_append, strLen_append]
  have e1 : ((("(" : String) : Str)).length = 1 := rfl
  have e2 : ((if ts.length == 1 then ",)" else ")" : String) : Str).length ≤ 2 := by split <;> decide +kernel
  have e3 : (Str.join ", " ts).length ≤ piled ts := by
    by_cases h : ts = []
    · subst h; decide +kernel
    · have := join_length_add ts h
      omega
  omega
theorem shownAll_len : ∀ ds : List PyData, (PyData.shownAll ds).length = ds.length
  | [] => rfl
  | _ :: r => congrArg (· + 1) (shownAll_len r)
theorem all_rk {b n : Nat} : ∀ {ds : List PyData}, (∀ d ∈ ds, Rk b n d) → PyData.showableAll ds = true ∧ PyData.hasDictAll ds = false ∧ PyData.depthAll ds ≤ b ∧ ∀ t ∈ PyData.shownAll ds, t.length ≤ n
  | [], _ => ⟨rfl, rfl, Nat.zero_le _, fun _ h => nomatch h⟩
  | d :: r, h => by
    obtain ⟨a1, a2, a3, a4⟩ := all_rk fun x hx => h x (List.mem_cons_of_mem _ hx)
    have hd := h d List.mem_cons_self
    refine ⟨?_, ?_, ?_, fun t ht => ?_⟩
    · show (d.showable && PyData.showableAll r) = true
      rw [hd.sh, a1]; rfl
    · show (d.hasDict || PyData.hasDictAll r) = false
      rw [hd.nd, a2]; rfl
    · show max d.depth (PyData.depthAll r) ≤ b
      exact Nat.max_le.mpr ⟨hd.dp, a3⟩
    · rcases List.mem_cons.mp (show t ∈ d.shown :: PyData.shownAll r from ht) with rfl | ht
      · exact hd.sz
      · exact a4 t ht
theorem Rk.list {b n : Nat} {ds : List PyData} (h : ∀ d ∈ ds, Rk b n d) : Rk (b + 1) (ds.length * (n + 2) + 3) (.list ds) := by
  obtain ⟨a1, a2, a3, a4⟩ := all_rk h
  have h1 := listText_le (PyData.shownAll ds)
  have h2 := piled_le _ a4
  rw [shownAll_len] at h2
  exact ⟨a1, a2, Nat.succ_le_succ a3, by show (listText _).length ≤ _; omega⟩
theorem Rk.tuple {b n : Nat} {ds : List PyData} (h : ∀ d ∈ ds, Rk b n d) : Rk (b + 1) (ds.length * (n + 2) + 3) (.tuple ds) := by
  obtain ⟨a1, a2, a3, a4⟩ := all_rk h
  have h1 := tupleText_le (PyData.shownAll ds)
  have h2 := piled_le _ a4
  rw [shownAll_len] at h2
  exact ⟨a1, a2, Nat.succ_le_succ a3, by show (tupleText _).length ≤ _; omega⟩
theorem Rk.listN {b n m : Nat} {ds : List PyData} (h : ∀ d ∈ ds, Rk b n d) (hm : ds.length ≤ m) : Rk (b + 1) (m * (n + 2) + 3) (.list ds) :=
  (Rk.list h).mono (Nat.le_refl _) (Nat.add_le_add_right (Nat.mul_le_mul_right _ hm) 3)
theorem Rk.tupleN {b n m : Nat} {ds : List PyData} (h : ∀ d ∈ ds, Rk b n d) (hm : ds.length ≤ m) : Rk (b + 1) (m * (n + 2) + 3) (.tuple ds) :=
  (Rk.tuple h).mono (Nat.le_refl _) (Nat.add_le_add_right (Nat.mul_le_mul_right _ hm) 3)
theorem Rk.numL {m : Nat} {xs : List Int} (h : ∀ x ∈ xs, x.natAbs < 2 ^ 100) (hm : xs.length ≤ m) : Rk 1 (m * 103 + 3) (.list (nums xs)) :=
  Rk.listN (n := 101) (fun d hd => by
    obtain ⟨x, hx, rfl⟩ := List.mem_map.mp hd
    exact Rk.int (h x hx)) (by unfold nums; rw [List.length_map]; exact hm)

/-! ### calls of built-ins -/
section
variable {c : CxD} {B : Bs} {e a b : Expr} {es : List Expr} {sl sl1 sl2 sl3 : List Sl} {p q r : Bool} {k k1 k2 : Kd} {ks : List Kd} {pos p1 p2 : Pos} {d d1 d2 : PyData} {ds ds1 ds2 : List PyData} {i j : Int} {xs ys : List Int}
theorem ev_callB {x : Str} {id : String} {r : List V → Hp → VK → Prop} (hc : ∀ X, InCx c X → CallR X (.builtin id) r) (hs : CS c.K r ks k) (ha : AV c B (e :: es) sl p ks sl1) (hm : c.mg x = none) (hv : bootBuiltins x = some (.builtin id))
    (hg : c.sc.names.lookup x = some .globalImplicit := by rfl) (he : ∀ env, starEach (e :: es) env = (false, eval e env) :: starEach es env := by intro env; rfl) (hpl : ∀ env, (backTo pos (starEach es env)).any (·.1) = false := by intro env; rfl)
    (hn : x ≠ "__name__" := by decide) (h1 : (x == ("__debug__" : Str)) = false := by decide) : EV c B (.Call (.Name x p1) (e :: es) [] pos) sl p k sl1 := by
  obtain ⟨ta, ha, sa⟩ := ha
  refine ⟨tCB r ta, fun X hX => pe_callB (hc X hX) (hX.g x hg) (by rw [hX.hm]; exact hm) hv (ha X hX) hn h1 (he _) (hpl _), fun S H σ I Q fn => ?_⟩
  exact sa S H σ I _ fun vs S1 H1 I1 a1 x1 => hs B σ sl1 S1 H1 vs I1 x1 Q (Mw.fin fn a1 fun h => h)
theorem ev_callT {x : Str} {id : String} {r : List V → Hp → VK → Prop} (hc : ∀ X, InCx c X → CallR X (.type id) r) (hs : CS c.K r ks k) (ha : AV c B (e :: es) sl p ks sl1) (hm : c.mg x = none) (hv : bootBuiltins x = some (.type id))
    (hg : c.sc.names.lookup x = some .globalImplicit := by rfl) (he : ∀ env, starEach (e :: es) env = (false, eval e env) :: starEach es env := by intro env; rfl) (hpl : ∀ env, (backTo pos (starEach es env)).any (·.1) = false := by intro env; rfl)
    (hn : x ≠ "__name__" := by decide) (h1 : (x == ("__debug__" : Str)) = false := by decide) : EV c B (.Call (.Name x p1) (e :: es) [] pos) sl p k sl1 := by
  obtain ⟨ta, ha, sa⟩ := ha
  refine ⟨tCB r ta, fun X hX => pe_callTy (hc X hX) (hX.g x hg) (by rw [hX.hm]; exact hm) hv (ha X hX) hn h1 (he _) (hpl _), fun S H σ I Q fn => ?_⟩
  exact sa S H σ I _ fun vs S1 H1 I1 a1 x1 => hs B σ sl1 S1 H1 vs I1 x1 Q (Mw.fin fn a1 fun h => h)
theorem one_arg {K : PySem.W.Frag} {S H : Hp} {σ : L2.St} {vs : List V} (h : KdsOk K B σ sl S H vs [k]) : ∃ v, vs = [v] ∧ KdOk K B σ sl S H v k := by
  cases h with
  | cons h t => cases t; exact ⟨_, rfl, h⟩
theorem two_arg {K : PySem.W.Frag} {S H : Hp} {σ : L2.St} {vs : List V} (h : KdsOk K B σ sl S H vs [k1, k2]) : ∃ v w, vs = [v, w] ∧ KdOk K B σ sl S H v k1 ∧ KdOk K B σ sl S H w k2 := by
  cases h with
  | cons h t =>
    cases t with
    | cons h2 t2 => cases t2; exact ⟨_, _, rfl, h, h2⟩
theorem ev_call1B {x : Str} {id : String} {r : List V → Hp → VK → Prop} (hc : ∀ X, InCx c X → CallR X (.builtin id) r) (hs : US c.K (fun v H Q => r [v] H Q) k1 k) (ha : EV c B e sl p k1 sl1) (hm : c.mg x = none) (hv : bootBuiltins x = some (.builtin id))
    (hg : c.sc.names.lookup x = some .globalImplicit := by rfl) (he : ∀ env, starEach [e] env = (false, eval e env) :: starEach [] env := by intro env; rfl)
    (hn : x ≠ "__name__" := by decide) (h1 : (x == ("__debug__" : Str)) = false := by decide) : EV c B (.Call (.Name x p1) [e] [] pos) sl p k sl1 := by
  have h := ev_callB (pos := pos) (p1 := p1) (ks := [k1]) hc (fun B σ sl S H vs I hv Q q => by
    obtain ⟨v, rfl, hk⟩ := one_arg hv
    exact hs B σ sl S H v I hk Q q) (av_cons ha av_nil rfl he) hm hv hg he (fun env => rfl) hn h1
  rwa [Bool.and_true] at h
theorem ev_call1T {x : Str} {id : String} {r : List V → Hp → VK → Prop} (hc : ∀ X, InCx c X → CallR X (.type id) r) (hs : US c.K (fun v H Q => r [v] H Q) k1 k) (ha : EV c B e sl p k1 sl1) (hm : c.mg x = none) (hv : bootBuiltins x = some (.type id))
    (hg : c.sc.names.lookup x = some .globalImplicit := by rfl) (he : ∀ env, starEach [e] env = (false, eval e env) :: starEach [] env := by intro env; rfl)
    (hn : x ≠ "__name__" := by decide) (h1 : (x == ("__debug__" : Str)) = false := by decide) : EV c B (.Call (.Name x p1) [e] [] pos) sl p k sl1 := by
  have h := ev_callT (pos := pos) (p1 := p1) (ks := [k1]) hc (fun B σ sl S H vs I hv Q q => by
    obtain ⟨v, rfl, hk⟩ := one_arg hv
    exact hs B σ sl S H v I hk Q q) (av_cons ha av_nil rfl he) hm hv hg he (fun env => rfl) hn h1
  rwa [Bool.and_true] at h

theorem ev_intI (ha : EV c B e sl p (.st (.int i)) sl1) (hm : c.mg "int" = none) (hg : c.sc.names.lookup ("int" : Str) = some .globalImplicit := by rfl) (he : ∀ env, starEach [e] env = (false, eval e env) :: starEach [] env := by intro env; rfl) :
    EV c B (.Call (.Name "int" p1) [e] [] pos) sl p (.st (.int i)) sl1 :=
  ev_call1T (fun _ _ => call_int1) (fun B σ sl S H v I hk Q q => .inl ⟨i, by rw [tr_int hk], q.st I (.int i)⟩) ha hm (by decide +kernel) hg he
theorem ev_intB {t : Bool} (ha : EV c B e sl p (.st (.bool t)) sl1) (hm : c.mg "int" = none) (hg : c.sc.names.lookup ("int" : Str) = some .globalImplicit := by rfl) (he : ∀ env, starEach [e] env = (false, eval e env) :: starEach [] env := by intro env; rfl) :
    EV c B (.Call (.Name "int" p1) [e] [] pos) sl p (.st (.int (if t then 1 else 0))) sl1 :=
  ev_call1T (fun _ _ => call_int1) (fun B σ sl S H v I hk Q q => .inr ⟨t, by rw [tr_bl hk], q.st I (.int _)⟩) ha hm (by decide +kernel) hg he
theorem ev_len (ha : EV c B e sl p k1 sl1) (hm : c.mg "len" = none) (hl : LsK k1 ds := by first | exact .st | exact .ls | exact .fr) (hg : c.sc.names.lookup ("len" : Str) = some .globalImplicit := by rfl) (he : ∀ env, starEach [e] env = (false, eval e env) :: starEach [] env := by intro env; rfl) :
    EV c B (.Call (.Name "len" p1) [e] [] pos) sl p (.st (.int (ds.length : Int))) sl1 :=
  ev_call1B (fun X hX => by have := call_len_seq (X := X); rw [hX.hK] at this; exact this) (fun B σ sl S H v I hk Q q => by
    obtain ⟨l, xs, rfl, h1, t⟩ := hl.rd I hk
    refine ⟨l, xs, rfl, .inl h1, ?_⟩
    rw [t.len]
    exact q.st I (.int _)) ha hm (by decide +kernel) hg he
/-- list(xs) of a list -/
theorem ev_list (ha : EV c B e sl p k1 sl1) (hm : c.mg "list" = none) (hl : LsK k1 ds := by first | exact .st | exact .ls | exact .fr) (hg : c.sc.names.lookup ("list" : Str) = some .globalImplicit := by rfl) (he : ∀ env, starEach [e] env = (false, eval e env) :: starEach [] env := by intro env; rfl) :
    EV c B (.Call (.Name "list" p1) [e] [] pos) sl p (.fr (.lst ds)) sl1 :=
  ev_call1T (fun X hX => by have := call_list_of (X := X); rw [hX.hK] at this; exact this) (fun B σ sl S H v I hk Q q => by
    obtain ⟨l, xs, rfl, h1, t⟩ := hl.rd I hk
    exact ⟨l, xs, rfl, .inl h1, fun m hn => q.fresh I hn t⟩) ha hm (by decide +kernel) hg he
theorem ev_sum (ha : EV c B e sl p k1 sl1) (hm : c.mg "sum" = none) (hl : LsK k1 (nums xs) := by first | exact .st | exact .ls | exact .fr) (hg : c.sc.names.lookup ("sum" : Str) = some .globalImplicit := by rfl) (he : ∀ env, starEach [e] env = (false, eval e env) :: starEach [] env := by intro env; rfl) :
    EV c B (.Call (.Name "sum" p1) [e] [] pos) sl p (.st (.int xs.sum)) sl1 :=
  ev_call1B (fun X hX => by have := cr_sum (X := X) hX.calm; rw [hX.hK] at this; exact this) (fun B σ sl S H v I hk Q q => by
    obtain ⟨l, vs, rfl, h1, t⟩ := hl.rd I hk
    cases trs_nums_eq t
    exact ⟨l, xs, rfl, h1, q.st I (.int _)⟩) ha hm (by decide +kernel) hg he
/-- the greatest of a list that is not empty -/
theorem ev_max {m : Int} (ha : EV c B e sl p k1 sl1) (hm : c.mg "max" = none) (h1 : m ∈ xs) (h2 : ∀ y ∈ xs, y ≤ m) (hl : LsK k1 (nums xs) := by first | exact .st | exact .ls | exact .fr) (hg : c.sc.names.lookup ("max" : Str) = some .globalImplicit := by rfl) (he : ∀ env, starEach [e] env = (false, eval e env) :: starEach [] env := by intro env; rfl) :
    EV c B (.Call (.Name "max" p1) [e] [] pos) sl p (.st (.int m)) sl1 :=
  ev_call1B (fun X hX => by have := cr_max (X := X) hX.calm; rw [hX.hK] at this; exact this) (fun B σ sl S H v I hk Q q => by
    obtain ⟨l, vs, rfl, h3, t⟩ := hl.rd I hk
    cases trs_nums_eq t
    refine ⟨l, xs, rfl, h3, List.length_pos_of_mem h1, fun m' hm' hb => ?_⟩
    have e : m' = m := by
      have a1 := h2 m' hm'
      have a2 := hb m h1
      omega
    rw [e]
    exact q.st I (.int _)) ha hm (by decide +kernel) hg he
theorem ev_min {m : Int} (ha : EV c B e sl p k1 sl1) (hm : c.mg "min" = none) (h1 : m ∈ xs) (h2 : ∀ y ∈ xs, m ≤ y) (hl : LsK k1 (nums xs) := by first | exact .st | exact .ls | exact .fr) (hg : c.sc.names.lookup ("min" : Str) = some .globalImplicit := by rfl) (he : ∀ env, starEach [e] env = (false, eval e env) :: starEach [] env := by intro env; rfl) :
    EV c B (.Call (.Name "min" p1) [e] [] pos) sl p (.st (.int m)) sl1 :=
  ev_call1B (fun X hX => by have := cr_min (X := X) hX.calm; rw [hX.hK] at this; exact this) (fun B σ sl S H v I hk Q q => by
    obtain ⟨l, vs, rfl, h3, t⟩ := hl.rd I hk
    cases trs_nums_eq t
    refine ⟨l, xs, rfl, h3, List.length_pos_of_mem h1, fun m' hm' hb => ?_⟩
    have e : m' = m := by
      have a1 := h2 m' hm'
      have a2 := hb m h1
      omega
    rw [e]
    exact q.st I (.int _)) ha hm (by decide +kernel) hg he
/-- two ascending lists of the same numbers are one -/
theorem asc_one : ∀ {xs ys : List Int}, xs.Perm ys → xs.Pairwise (· ≤ ·) → ys.Pairwise (· ≤ ·) → xs = ys
  | xs, ys, hp, h1, h2 => List.Perm.eq_of_pairwise (le := (· ≤ ·)) (fun a b _ _ h3 h4 => Int.le_antisymm h3 h4) h1 h2 hp
theorem ev_sorted (ha : EV c B e sl p k1 sl1) (hm : c.mg "sorted" = none) (h1 : ys.Perm xs) (h2 : ys.Pairwise (· ≤ ·)) (hl : LsK k1 (nums xs) := by first | exact .st | exact .ls | exact .fr) (hg : c.sc.names.lookup ("sorted" : Str) = some .globalImplicit := by rfl) (he : ∀ env, starEach [e] env = (false, eval e env) :: starEach [] env := by intro env; rfl) :
    EV c B (.Call (.Name "sorted" p1) [e] [] pos) sl p (.fr (.lst (nums ys))) sl1 :=
  ev_call1B (fun X hX => by have := cr_sortedI (X := X); rw [hX.hK] at this; exact this) (fun B σ sl S H v I hk Q q => by
    obtain ⟨l, vs, rfl, h3, t⟩ := hl.rd I hk
    cases trs_nums_eq t
    refine ⟨l, xs, rfl, h3, fun ns m hp ho hn => ?_⟩
    cases asc_one (hp.trans h1.symm) ho h2
    exact q.fresh I hn (trs_nums _)) ha hm (by decide +kernel) hg he
theorem bools_trs {K : PySem.W.Frag} {S : Hp} : ∀ {bs : List Bool} {vs : List V}, Trs K S vs (bs.map PyData.bool) → vs = bs.map V.bl
  | [], _, h => by cases h; rfl
  | _ :: r, _, h => by
    cases h with
    | cons h t =>
      cases h
      rw [bools_trs (bs := r) t]
      rfl
theorem ev_any {bs : List Bool} (ha : EV c B e sl p k1 sl1) (hm : c.mg "any" = none) (hl : LsK k1 (bs.map .bool) := by first | exact .st | exact .ls | exact .fr) (hg : c.sc.names.lookup ("any" : Str) = some .globalImplicit := by rfl) (he : ∀ env, starEach [e] env = (false, eval e env) :: starEach [] env := by intro env; rfl) :
    EV c B (.Call (.Name "any" p1) [e] [] pos) sl p (.st (.bool (bs.any id))) sl1 :=
  ev_call1B (fun X hX => by have := cr_any (X := X) hX.calm; rw [hX.hK] at this; exact this) (fun B σ sl S H v I hk Q q => by
    obtain ⟨l, vs, rfl, h3, t⟩ := hl.rd I hk
    cases bools_trs t
    exact ⟨l, bs, rfl, h3, q.st I (.bl _)⟩) ha hm (by decide +kernel) hg he
theorem ev_all {bs : List Bool} (ha : EV c B e sl p k1 sl1) (hm : c.mg "all" = none) (hl : LsK k1 (bs.map .bool) := by first | exact .st | exact .ls | exact .fr) (hg : c.sc.names.lookup ("all" : Str) = some .globalImplicit := by rfl) (he : ∀ env, starEach [e] env = (false, eval e env) :: starEach [] env := by intro env; rfl) :
    EV c B (.Call (.Name "all" p1) [e] [] pos) sl p (.st (.bool (bs.all id))) sl1 :=
  ev_call1B (fun X hX => by have := cr_all (X := X) hX.calm; rw [hX.hK] at this; exact this) (fun B σ sl S H v I hk Q q => by
    obtain ⟨l, vs, rfl, h3, t⟩ := hl.rd I hk
    cases bools_trs t
    exact ⟨l, bs, rfl, h3, q.st I (.bl _)⟩) ha hm (by decide +kernel) hg he

/-! ### repr -/
inductive AsD : Kd → PyData → Prop
  | st {d : PyData} : AsD (.st d) d
  | ls {ds : List PyData} : AsD (.ls ds) (.list ds)
  | fr {ds : List PyData} : AsD (.fr (.lst ds)) (.list ds)
  | nw {d : PyData} : AsD (.nw d) d
  | ft {t : PTr} : AsD (.ft t) t.d
theorem AsD.tr {K : PySem.W.Frag} {S H : Hp} {σ : L2.St} {v : V} (h : AsD k d) (I : Stt K B S H σ sl) (x : KdOk K B σ sl S H v k) : Tr K H v d := by
  cases h with
  | st => exact Tr.mono I.sh x
  | ls =>
    obtain ⟨a, xs, rfl, h1, t⟩ := x
    exact .lst h1 (t.mono I.sh)
  | fr =>
    obtain ⟨l, rfl, _, _, ⟨xs, h1, t⟩, _⟩ := x
    exact .lst (.inl (.inl h1)) (t.mono I.sh)
  | nw => exact x
  | ft =>
    obtain ⟨G, t, h⟩ := x
    exact TrP.tr I.sh t fun _ _ => rfl
theorem ev_repr {n : Nat} (ha : EV c B e sl p k sl1) (hm : c.mg "repr" = none) (hd : Rk 50 n d) (hk1 : AsD k d := by first | exact .st | exact .ls | exact .fr | exact .nw) (hn : n ≤ 16777216 := by omega) (hg : c.sc.names.lookup ("repr" : Str) = some .globalImplicit := by rfl) (he : ∀ env, starEach [e] env = (false, eval e env) :: starEach [] env := by intro env; rfl) :
    EV c B (.Call (.Name "repr" p1) [e] [] pos) sl p (.st (.str d.shown)) sl1 := by
  have hsz : d.shown.length ≤ sizeLine := by rw [sizeLine_eq]; exact Nat.le_trans hd.sz hn
  refine ev_call1B (k1 := k) (id := "repr") (r := fun vs H Q => ∃ v, vs = [v] ∧ Tr c.K H v d ∧ Q (.str d.shown) H) (fun X hX => ?_) (fun B σ sl S H v I hk Q q => ⟨v, rfl, hk1.tr I hk, q.st I (.str _)⟩) ha hm (by decide +kernel) hg he
  intro pins s σ H vs us Q I r h
  obtain ⟨v, rfl, t, q⟩ := h
  rw [← hX.hK] at t
  obtain ⟨u, rfl, ru⟩ : ∃ u, us = [u] ∧ RelV v u := by
    cases r with
    | cons r1 r2 => cases r2; exact ⟨_, rfl, r1⟩
  obtain ⟨as, rd⟩ := Tr.reads I t hd.nd ru
  have fin : ∀ tk tk', EP X pins σ Q (.str d.shown tk) { s with toks := tk' } := fun tk tk' => ⟨.str d.shown, H, I.tok _, ⟨_, rfl⟩, q⟩
  have ref : ∀ a, u = Value.ref a → wpAny (model X.prog X.w) X.A (call (.builtin "repr") [u]) (EP X pins σ Q) X.xe s := fun a ea => by
    subst ea
    refine repr_of_reads' rd hd.sh (fun h => by rw [hd.nd] at h; cases h) hX.gu ?_ (fun _ _ h => h) (fun h' u tk hk => ?_) hsz
    · have := hX.rm.units
      have := hd.dp
      omega
    · exact ⟨.str d.shown, H, I.kept hk, ⟨_, rfl⟩, q⟩
  cases rd with
  | none => exact PySem.P.repr_of_none (fin _ _)
  | bool b => exact PySem.P.repr_of_bool (fin _ _)
  | int i t => exact PySem.P.repr_of_int (of_decide_eq_true hd.sh) (fin _ _)
  | str x t => exact PySem.P.repr_of_str (fin _ _) hsz
  | list h1 h2 h3 h4 => exact ref _ rfl
  | tuple h1 h2 h3 h4 => exact ref _ rfl
  | dict h1 h2 h3 h4 h5 => exact ref _ rfl

/-! ### == and != of trees -/
def canEq (d : PyData) : Prop := SeqAt.shaped d = true ∧ d.hasDict = false
def rEqT (K : PySem.W.Frag) (neg : Bool) : R2 := fun x y H Q => ∃ d e, Tr K H x d ∧ Tr K H y e ∧ canEq d ∧ canEq e ∧ Q (.bl (if neg then !PyData.eqv d e else PyData.eqv d e)) H
theorem op_eqT {X : Cx} (hu : X.A.units + 64 < cLine) : OpR X (compareOp .Eq) (rEqT X.K false) := by
  intro pins s σ H x y v u Q I rx ry h
  obtain ⟨d, e, hd, he, sd, se, q⟩ := h
  obtain ⟨as, r1⟩ := Tr.reads I hd sd.2 rx
  obtain ⟨bs, r2⟩ := Tr.reads I he se.2 ry
  exact SeqAt.compareEq_shaped r1 r2 sd.1 se.1 hu ⟨.bl _, H, I, rfl, q⟩
theorem op_neT {X : Cx} (hu : X.A.units + 64 < cLine) : OpR X (compareOp .NotEq) (rEqT X.K true) := by
  intro pins s σ H x y v u Q I rx ry h
  obtain ⟨d, e, hd, he, sd, se, q⟩ := h
  obtain ⟨as, r1⟩ := Tr.reads I hd sd.2 rx
  obtain ⟨bs, r2⟩ := Tr.reads I he se.2 ry
  exact SeqAt.compareNe_shaped r1 r2 sd.1 se.1 hu ⟨.bl _, H, I, rfl, q⟩
theorem cm_eqD (ha : EV c B a sl p k1 sl1) (hb : EV c B b sl1 true k2 sl2) (h1 : AsD k1 d1) (h2 : AsD k2 d2) (s1 : canEq d1) (s2 : canEq d2) : CM c B .Eq a b sl p (PyData.eqv d1 d2) sl2 := by
  have h := cm_of (op := .Eq) (r := rEqT c.K false) (t := PyData.eqv d1 d2) (fun X hX => by rw [← hX.hK]; exact op_eqT hX.rm.units) (nobehind _ (by decide) (by decide)) (fun B σ sl S H x y I hx hy Q q => ⟨d1, d2, h1.tr I hx, h2.tr I hy, s1, s2, q.st I (.bl _)⟩) ha hb rfl
  rwa [Bool.and_true] at h
theorem cm_neD (ha : EV c B a sl p k1 sl1) (hb : EV c B b sl1 true k2 sl2) (h1 : AsD k1 d1) (h2 : AsD k2 d2) (s1 : canEq d1) (s2 : canEq d2) : CM c B .NotEq a b sl p (!PyData.eqv d1 d2) sl2 := by
  have h := cm_of (op := .NotEq) (r := rEqT c.K true) (t := !PyData.eqv d1 d2) (fun X hX => by rw [← hX.hK]; exact op_neT hX.rm.units) (nobehind _ (by decide) (by decide)) (fun B σ sl S H x y I hx hy Q q => ⟨d1, d2, h1.tr I hx, h2.tr I hy, s1, s2, q.st I (.bl _)⟩) ha hb rfl
  rwa [Bool.and_true] at h
theorem canLay_nums : ∀ xs : List Int, PyData.canLayAll0 (nums xs) = true
  | [] => rfl
  | x :: r => canLay_nums r
theorem depth_nums : ∀ xs : List Int, PyData.depthAll (nums xs) = 0
  | [] => rfl
  | x :: r => by show max 0 (PyData.depthAll (nums r)) = 0; rw [depth_nums r]; rfl
theorem noDict_nums : ∀ xs : List Int, PyData.hasDictAll (nums xs) = false
  | [] => rfl
  | x :: r => noDict_nums r
theorem canEq_nums (xs : List Int) : canEq (.list (nums xs)) := by
  refine ⟨?_, noDict_nums xs⟩
  show ((PyData.canLay0 (.list (nums xs))) && decide (PyData.depth (.list (nums xs)) ≤ 64)) = true
  have e : PyData.depth (.list (nums xs)) = 1 := by show PyData.depthAll _ + 1 = 1; rw [depth_nums]
  rw [e]
  exact Bool.and_eq_true_iff.mpr ⟨canLay_nums xs, rfl⟩
theorem eqv_nums : ∀ xs ys : List Int, PyData.eqvAll (nums xs) (nums ys) = decide (xs = ys)
  | [], [] => rfl
  | [], _ :: _ => rfl
  | _ :: _, [] => rfl
  | x :: xs, y :: ys => by
    show ((x == y) && PyData.eqvAll (nums xs) (nums ys)) = _
    rw [eqv_nums xs ys]
    by_cases h1 : x = y
    · subst h1
      simp
    · simp [h1]
theorem cm_eqN (ha : EV c B a sl p k1 sl1) (hb : EV c B b sl1 true k2 sl2) (h1 : AsD k1 (.list (nums xs)) := by first | exact .st | exact .ls | exact .fr) (h2 : AsD k2 (.list (nums ys)) := by first | exact .st | exact .ls | exact .fr) : CM c B .Eq a b sl p (decide (xs = ys)) sl2 := by
  have h := cm_eqD ha hb h1 h2 (canEq_nums xs) (canEq_nums ys)
  have e : PyData.eqv (.list (nums xs)) (.list (nums ys)) = decide (xs = ys) := eqv_nums xs ys
  rwa [e] at h
theorem cm_neN (ha : EV c B a sl p k1 sl1) (hb : EV c B b sl1 true k2 sl2) (h1 : AsD k1 (.list (nums xs)) := by first | exact .st | exact .ls | exact .fr) (h2 : AsD k2 (.list (nums ys)) := by first | exact .st | exact .ls | exact .fr) : CM c B .NotEq a b sl p (!decide (xs = ys)) sl2 := by
  have h := cm_neD ha hb h1 h2 (canEq_nums xs) (canEq_nums ys)
  have e : PyData.eqv (.list (nums xs)) (.list (nums ys)) = decide (xs = ys) := eqv_nums xs ys
  rwa [e] at h

/-! ### in -/
theorem flat_toV : ∀ {ds : List PyData} {K : PySem.W.Frag} {S : Hp} {vs : List V}, Trs K S vs ds → ds.all flatD = true → vs = ds.map toV ∧ vs.all flatV = true
  | [], _, _, _, h, _ => by cases h; exact ⟨rfl, rfl⟩
  | d :: r, _, _, _, h, hf => by
    cases h with
    | cons h t =>
      rw [List.all_cons, Bool.and_eq_true] at hf
      obtain ⟨e1, e2⟩ := flat_toV t hf.2
      have e3 := tr_flat h hf.1
      refine ⟨by rw [List.map_cons, ← e1, ← e3], ?_⟩
      rw [List.all_cons, e2, Bool.and_true, e3]
      have h2 := hf.1
      cases d <;> first | rfl | cases h2
theorem flatV_toV (h : flatD d = true) : flatV (toV d) = true := by cases d <;> first | rfl | cases h
def inD (d : PyData) (ds : List PyData) : Bool := inV (toV d) (ds.map toV)
theorem os_in {neg : Bool} (hl : LsK k2 ds) (h1 : flatD d = true) (h2 : ds.all flatD = true) : OS c.K (rIn c.K neg) (.st d) k2 (.st (.bool (if neg then !inD d ds else inD d ds))) := fun B σ sl S H x y I hx hy Q q => by
  obtain ⟨l, vs, rfl, h3, t⟩ := hl.rd I hy
  obtain ⟨e, f⟩ := flat_toV t h2
  have ex := tr_flat hx h1
  refine ⟨l, vs, rfl, .inl h3, by rw [ex]; exact flatV_toV h1, f, ?_⟩
  rw [e, ex]
  exact q.st I (.bl _)
theorem behind_name {op : CmpOp} {x : Str} : behindInMarks op (.Name x pos) = false := by cases op <;> rfl
theorem cm_in (ha : EV c B a sl p (.st d) sl1) (hb : EV c B b sl1 q k2 sl2) (h1 : flatD d = true) (h2 : ds.all flatD = true) (hm : behindInMarks .In b = false := by rfl) (hl : LsK k2 ds := by first | exact .st | exact .ls | exact .fr) : CM c B .In a b sl (p && q) (inD d ds) sl2 :=
  cm_of (fun X hX => by rw [← hX.hK]; exact op_in_seq) hm (os_in (neg := false) hl h1 h2) ha hb (by simp [Kd.firm])
theorem cm_notIn (ha : EV c B a sl p (.st d) sl1) (hb : EV c B b sl1 q k2 sl2) (h1 : flatD d = true) (h2 : ds.all flatD = true) (hm : behindInMarks .NotIn b = false := by rfl) (hl : LsK k2 ds := by first | exact .st | exact .ls | exact .fr) : CM c B .NotIn a b sl (p && q) (!inD d ds) sl2 :=
  cm_of (fun X hX => by rw [← hX.hK]; exact op_notIn_seq) hm (os_in (neg := true) hl h1 h2) ha hb (by simp [Kd.firm])
theorem flat_nums : ∀ xs : List Int, (nums xs).all flatD = true
  | [] => rfl
  | _ :: r => flat_nums r
theorem inD_nums (x : Int) : ∀ xs : List Int, inD (.int x) (nums xs) = decide (x ∈ xs)
  | [] => rfl
  | y :: r => by
    show ((y == x) || inD (.int x) (nums r)) = _
    rw [inD_nums x r]
    by_cases h : y = x
    · subst h; simp
    · have h' : ¬ x = y := fun z => h z.symm
      simp [h, h']
theorem cm_inN (ha : EV c B a sl p (.st (.int i)) sl1) (hb : EV c B b sl1 q k2 sl2) (hm : behindInMarks .In b = false := by rfl) (hl : LsK k2 (nums xs) := by first | exact .st | exact .ls | exact .fr) : CM c B .In a b sl (p && q) (decide (i ∈ xs)) sl2 :=
  (cm_in ha hb rfl (flat_nums xs) hm hl).to (by rw [inD_nums])
theorem cm_notInN (ha : EV c B a sl p (.st (.int i)) sl1) (hb : EV c B b sl1 q k2 sl2) (hm : behindInMarks .NotIn b = false := by rfl) (hl : LsK k2 (nums xs) := by first | exact .st | exact .ls | exact .fr) : CM c B .NotIn a b sl (p && q) (!decide (i ∈ xs)) sl2 :=
  (cm_notIn ha hb rfl (flat_nums xs) hm hl).to (by rw [inD_nums])

/-! ### slices, list operators -/
def cutD {α : Type} (ds : List α) (lo hi : Option Int) : List α := (ds.drop (HT.sIx ds.length 0 lo)).take (HT.sIx ds.length ds.length hi - HT.sIx ds.length 0 lo)
theorem trs_cut {K : PySem.W.Frag} {S : Hp} {vs : List V} {ds : List PyData} (t : Trs K S vs ds) (lo hi : Option Int) : Trs K S (cutV vs lo hi) (cutD ds lo hi) := by
  unfold cutV cutD
  rw [t.len]
  exact (t.drop _).take _
/-- a bound of a slice, pure -/
def SO (c : CxD) (B : Bs) (e : Option Expr) (sl : List Sl) (o : Option Int) : Prop := ∃ t, (∀ X, InCx c X → PO X e t) ∧ ∀ S H σ, Stt c.K B S H σ sl → ∀ Q : Option Int → Hp → Prop, (∀ S' H', Stt c.K B S' H' σ sl → Adv σ sl S H sl S' H' true → Q o H') → t σ H Q
theorem so_none : SO c B none sl none := ⟨tNoPart, fun _ _ => po_none, fun S H σ I Q q => q S H I .refl⟩
theorem so_some (h : EV c B e sl true (.st (.int i)) sl) : SO c B (some e) sl (some i) := by
  obtain ⟨t, ht, hs⟩ := h
  exact ⟨tPart t, fun X hX => po_some (ht X hX), fun S H σ I Q q => hs S H σ I _ fun v S1 H1 I1 a1 x1 _ => ⟨i, tr_int x1, q S1 H1 I1 a1⟩⟩
theorem ev_slice {lo hi : Option Expr} {o u : Option Int} (ha : EV c B a sl p k1 sl1) (h1 : SO c B lo sl1 o) (h2 : SO c B hi sl1 u) (hl : LsK k1 ds := by first | exact .st | exact .ls | exact .fr) : EV c B (.Subscript a (.Slice lo hi none p2) pos) sl p (.fr (.lst (cutD ds o u))) sl1 := by
  obtain ⟨ta, ha, sa⟩ := ha
  obtain ⟨t1, g1, s1⟩ := h1
  obtain ⟨t2, g2, s2⟩ := h2
  refine ⟨tSl (rSlL c.K) ta t1 t2, fun X hX => pe_slice (by rw [← hX.hK]; exact sl_list) (ha X hX) (g1 X hX) (g2 X hX), fun S H σ I Q fn => ?_⟩
  refine sa S H σ I _ fun x S1 H1 I1 a1 x1 f1 => s1 S1 H1 σ I1 _ fun S2 H2 I2 a2 => s2 S2 H2 σ I2 _ fun S3 H3 I3 a3 => ?_
  obtain ⟨l, vs, rfl, hq, t⟩ := hl.rd I3 ((x1.adv a2 rfl).adv a3 rfl)
  exact ⟨l, vs, rfl, hq, fun m hn => (Mw.fin fn ((a1.trans a2).trans a3) fun h => by rw [h]; rfl).fresh I3 hn (trs_cut t _ _)⟩
/-- xs + ys -/
theorem frL {K : PySem.W.Frag} {S H : Hp} {σ : L2.St} {v : V} (x : KdOk K B σ sl S H v (.fr (.lst ds))) : ∃ l vs, v = .ref l ∧ H l = some (.lst vs) ∧ Trs K S vs ds := by
  obtain ⟨l, e, _, _, ⟨xs, h1, t⟩, _⟩ := x
  exact ⟨l, xs, e, h1, t⟩
end
end Mw

/-! MwD: tests, statements, loops, comprehensions. -/
namespace Mw
open PySem PySem.Spec L2
variable [Tb]

/-! ## readings chosen where they are run -/
def rE (c : CxD) (e : Expr) : TE := fun σ H Q => ∃ t, (∀ X, InCx c X → PE X e t) ∧ t σ H Q
def rT (c : CxD) (e : Expr) : TT := fun σ H Q => ∃ t, (∀ X, InCx c X → PT X e t) ∧ t σ H Q
def rB (c : CxD) (ss : List Stmt) : TS := fun D σ H => ∃ t, (∀ X, InCx c X → PSs X ss t) ∧ t D σ H
section
variable {c : CxD} {X : Cx}
theorem pe_rE {e : Expr} (h : InCx c X) : PE X e (rE c e) := ⟨fun pins s σ H Q I hq => by
  obtain ⟨t, ht, q⟩ := hq
  exact (ht X h).run pins s σ H Q I q⟩
theorem pt_rT {e : Expr} (h : InCx c X) : PT X e (rT c e) := ⟨fun pins s σ H Q I hq => by
  obtain ⟨t, ht, q⟩ := hq
  exact (ht X h).run pins s σ H Q I q⟩
theorem ps_rB {ss : List Stmt} (h : InCx c X) : PSs X ss (rB c ss) := ⟨fun pins s σ H Q I hq => by
  obtain ⟨t, ht, q⟩ := hq
  exact (ht X h).run pins s σ H Q I q⟩
end
section
variable {c : CxD} {B : Bs} {e a b : Expr} {sl sl1 sl2 sl3 : List Sl} {p q r : Bool} {k k1 k2 : Kd} {pos p1 p2 : Pos} {t u : Bool}
theorem EV.rr (h : EV c B e sl p k sl1) : SemE c.K B (rE c e) sl p k sl1 := fun S H σ I Q q => by
  obtain ⟨t, ht, hs⟩ := h
  exact ⟨t, ht, hs S H σ I Q q⟩
theorem EV.mk (h : SemE c.K B (rE c e) sl p k sl1) : EV c B e sl p k sl1 := ⟨rE c e, fun X hX => pe_rE hX, h⟩
theorem TV.rr (h : TV c B e sl p t sl1) : SemT c.K B (rT c e) sl p t sl1 := fun S H σ I Q q => by
  obtain ⟨t, ht, hs⟩ := h
  exact ⟨t, ht, hs S H σ I Q q⟩

/-! ## tests -/
theorem tv_val (h : EV c B e sl p (.st (.bool t)) sl1) (he : ∀ env whole, isTrue e env whole = (do let v ← whole; standAt e.pos; holding [v] (truthy v)) := by intro _ _; rfl) : TV c B e sl p t sl1 := by
  obtain ⟨te, h, hs⟩ := h
  refine ⟨tB te, fun X hX => pt_val (h X hX) (he _), fun S H σ I Q q => ?_⟩
  exact hs S H σ I _ fun v S1 H1 I1 a1 x1 _ => ⟨t, tr_bl x1, q S1 H1 I1 a1⟩
theorem tv_not (h : TV c B e sl p t sl1) : TV c B (.UnaryOp .Not e pos) sl p (!t) sl1 := by
  obtain ⟨te, h, hs⟩ := h
  exact ⟨tNot te, fun X hX => pt_not (h X hX), fun S H σ I Q q => hs S H σ I _ fun S1 H1 I1 a1 => q S1 H1 I1 a1⟩
theorem WV.tt (h : WV c B e sl p t sl1) : TV c B e sl p t sl1 := by
  obtain ⟨te, h, hs⟩ := h
  exact ⟨te, fun X hX => (h X hX).pt, hs⟩
theorem wv_and1 (h : TV c B e sl p t sl1) : WV c B (.BoolOp .And [e] pos) sl p t sl1 := by
  obtain ⟨te, h, hs⟩ := h
  exact ⟨te, fun X hX => pw_and1 (h X hX), hs⟩
theorem wv_or1 (h : TV c B e sl p t sl1) : WV c B (.BoolOp .Or [e] pos) sl p t sl1 := by
  obtain ⟨te, h, hs⟩ := h
  exact ⟨te, fun X hX => pw_or1 (h X hX), hs⟩
def rW (c : CxD) (e : Expr) : TT := fun σ H Q => ∃ t, (∀ X, InCx c X → PW X e t) ∧ t σ H Q
theorem pw_rW {X : Cx} (h : InCx c X) : PW X e (rW c e) := ⟨fun wh pins s σ H Q I hq => by
  obtain ⟨t, ht, q⟩ := hq
  exact (ht X h).run wh pins s σ H Q I q⟩
theorem wv_and {rest : List Expr} (h : TV c B a sl p t sl1) (h2 : t = true → WV c B (.BoolOp .And (b :: rest) pos) sl1 q u sl2) (h3 : t = false → sl2 = sl1) : WV c B (.BoolOp .And (a :: b :: rest) pos) sl (p && q) (t && u) sl2 := by
  obtain ⟨te, h, hs⟩ := h
  refine ⟨tAnd te (rW c (.BoolOp .And (b :: rest) pos)), fun X hX => pw_and (h X hX) (pw_rW hX), fun S H σ I Q fn => ?_⟩
  refine hs S H σ I _ fun S1 H1 I1 a1 => ?_
  cases t with
  | true =>
    obtain ⟨t2, g2, s2⟩ := h2 rfl
    show rW c _ σ H1 Q
    exact ⟨t2, g2, s2 S1 H1 σ I1 Q fun S2 H2 I2 a2 => fn S2 H2 I2 (a1.trans a2)⟩
  | false =>
    cases h3 rfl
    show Q false H1
    exact fn S1 H1 I1 (a1.weak fun e => (Bool.and_eq_true_iff.mp e).1)
theorem wv_or {rest : List Expr} (h : TV c B a sl p t sl1) (h2 : t = false → WV c B (.BoolOp .Or (b :: rest) pos) sl1 q u sl2) (h3 : t = true → sl2 = sl1) : WV c B (.BoolOp .Or (a :: b :: rest) pos) sl (p && q) (t || u) sl2 := by
  obtain ⟨te, h, hs⟩ := h
  refine ⟨tOr te (rW c (.BoolOp .Or (b :: rest) pos)), fun X hX => pw_or (h X hX) (pw_rW hX), fun S H σ I Q fn => ?_⟩
  refine hs S H σ I _ fun S1 H1 I1 a1 => ?_
  cases t with
  | false =>
    obtain ⟨t2, g2, s2⟩ := h2 rfl
    show rW c _ σ H1 Q
    exact ⟨t2, g2, s2 S1 H1 σ I1 Q fun S2 H2 I2 a2 => fn S2 H2 I2 (a1.trans a2)⟩
  | true =>
    cases h3 rfl
    show Q true H1
    exact fn S1 H1 I1 (a1.weak fun e => (Bool.and_eq_true_iff.mp e).1)
/-- the same where the slots stay -/
theorem tv_and (h : TV c B a sl p t sl) (h2 : t = true → TV c B b sl q u sl) : TV c B (.BoolOp .And [a, b] pos) sl (p && q) (t && u) sl := (wv_and h (fun e => wv_and1 (h2 e)) fun _ => rfl).tt
theorem tv_or (h : TV c B a sl p t sl) (h2 : t = false → TV c B b sl q u sl) : TV c B (.BoolOp .Or [a, b] pos) sl (p && q) (t || u) sl := (wv_or h (fun e => wv_or1 (h2 e)) fun _ => rfl).tt
/-- as values -/
theorem ev_one {op : BoolOp} (h : EV c B a sl p k sl1) : EV c B (.BoolOp op [a] pos) sl p k sl1 := by
  obtain ⟨te, h, hs⟩ := h
  exact ⟨te, fun X hX => pe_one (h X hX), hs⟩
theorem ev_andG {rest : List Expr} (h : EV c B a sl p (.st (.bool t)) sl1) (h2 : t = true → EV c B (.BoolOp .And (b :: rest) pos) sl1 q (.st (.bool u)) sl2) (h3 : t = false → sl2 = sl1) :
    EV c B (.BoolOp .And (a :: b :: rest) pos) sl (p && q) (.st (.bool (t && u))) sl2 := by
  obtain ⟨te, h, hs⟩ := h
  refine ⟨tAndV te (rE c (.BoolOp .And (b :: rest) pos)), fun X hX => pe_and (h X hX) (pe_rE hX), fun S H σ I Q fn => ?_⟩
  refine hs S H σ I _ fun v S1 H1 I1 a1 x1 _ => ⟨t, tr_bl x1, ?_⟩
  cases t with
  | true =>
    rw [if_pos rfl]
    exact (h2 rfl).rr S1 H1 σ I1 Q fun v S2 H2 I2 a2 x2 f2 => fn v S2 H2 I2 (a1.trans a2) x2 trivial
  | false =>
    cases h3 rfl
    rw [if_neg Bool.false_ne_true]
    exact fn _ S1 H1 I1 (a1.weak fun e => (Bool.and_eq_true_iff.mp e).1) (.bl _) trivial
theorem ev_orG {rest : List Expr} (h : EV c B a sl p (.st (.bool t)) sl1) (h2 : t = false → EV c B (.BoolOp .Or (b :: rest) pos) sl1 q (.st (.bool u)) sl2) (h3 : t = true → sl2 = sl1) :
    EV c B (.BoolOp .Or (a :: b :: rest) pos) sl (p && q) (.st (.bool (t || u))) sl2 := by
  obtain ⟨te, h, hs⟩ := h
  refine ⟨tOrV te (rE c (.BoolOp .Or (b :: rest) pos)), fun X hX => pe_or (h X hX) (pe_rE hX), fun S H σ I Q fn => ?_⟩
  refine hs S H σ I _ fun v S1 H1 I1 a1 x1 _ => ⟨t, tr_bl x1, ?_⟩
  cases t with
  | false =>
    rw [if_neg Bool.false_ne_true]
    exact (h2 rfl).rr S1 H1 σ I1 Q fun v S2 H2 I2 a2 x2 f2 => fn v S2 H2 I2 (a1.trans a2) x2 trivial
  | true =>
    cases h3 rfl
    rw [if_pos rfl]
    exact fn _ S1 H1 I1 (a1.weak fun e => (Bool.and_eq_true_iff.mp e).1) (.bl _) trivial
theorem ev_and (h : EV c B a sl p (.st (.bool t)) sl) (h2 : t = true → EV c B b sl q (.st (.bool u)) sl) : EV c B (.BoolOp .And [a, b] pos) sl (p && q) (.st (.bool (t && u))) sl := ev_andG h (fun e => ev_one (h2 e)) fun _ => rfl
theorem ev_or (h : EV c B a sl p (.st (.bool t)) sl) (h2 : t = false → EV c B b sl q (.st (.bool u)) sl) : EV c B (.BoolOp .Or [a, b] pos) sl (p && q) (.st (.bool (t || u))) sl := ev_orG h (fun e => ev_one (h2 e)) fun _ => rfl
theorem ev_not (h : EV c B a sl p (.st (.bool t)) sl1) : EV c B (.UnaryOp .Not a pos) sl p (.st (.bool (!t))) sl1 := by
  obtain ⟨te, h, hs⟩ := h
  refine ⟨tNotV te, fun X hX => pe_not (h X hX), fun S H σ I Q fn => ?_⟩
  exact hs S H σ I _ fun v S1 H1 I1 a1 x1 _ => ⟨t, tr_bl x1, fn _ S1 H1 I1 a1 (.bl _) trivial⟩
theorem ev_if (h : TV c B e sl p t sl1) (h1 : t = true → EV c B a sl1 q k sl2) (h2 : t = false → EV c B b sl1 q k sl2) : EV c B (.IfExp e a b pos) sl (p && q) k sl2 := by
  obtain ⟨te, h, hs⟩ := h
  refine ⟨tIf te (rE c a) (rE c b), fun X hX => pe_ifExp (h X hX) (pe_rE hX) (pe_rE hX), fun S H σ I Q fn => ?_⟩
  refine hs S H σ I _ fun S1 H1 I1 a1 => ?_
  cases t with
  | true =>
    rw [if_pos rfl]
    exact (h1 rfl).rr S1 H1 σ I1 Q fun v S2 H2 I2 a2 x2 f2 => fn v S2 H2 I2 (a1.trans a2) x2 (f2.back a1)
  | false =>
    rw [if_neg Bool.false_ne_true]
    exact (h2 rfl).rr S1 H1 σ I1 Q fun v S2 H2 I2 a2 x2 f2 => fn v S2 H2 I2 (a1.trans a2) x2 (f2.back a1)
/-- a < b < c -/
theorem ev_chainI {op op' : CmpOp} {f g : Int → Int → Bool} {i j m : Int} {d3 : Expr} (ho : ∀ X, InCx c X → OpR X (compareOp op) (rI0 fun i j => .bl (f i j))) (ho' : ∀ X, InCx c X → OpR X (compareOp op') (rI0 fun i j => .bl (g i j)))
    (ha : EV c B a sl true (.st (.int i)) sl) (hb : EV c B b sl true (.st (.int j)) sl) (hc : f i j = true → EV c B d3 sl true (.st (.int m)) sl) (hm : lastMarks [op, op'] [b, d3] = false := by with_unfolding_all rfl) :
    EV c B (.Compare a [op, op'] [b, d3] pos) sl true (.st (.bool (f i j && g j m))) sl := by
  obtain ⟨ta, ga, sa⟩ := ha
  obtain ⟨tb, gb, sb⟩ := hb
  refine ⟨tChain _ _ ta tb (rE c d3), fun X hX => pe_chain (ho X hX) (ho' X hX) (ga X hX) (gb X hX) (pe_rE hX) hm, fun S H σ I Q fn => ?_⟩
  refine sa S H σ I _ fun x S1 H1 I1 a1 x1 f1 => sb S1 H1 σ I1 _ fun y S2 H2 I2 a2 x2 f2 => ?_
  refine ⟨i, j, tr_int x1, tr_int x2, f i j, rfl, ?_⟩
  have aa := a1.trans a2
  cases hf : f i j with
  | true =>
    rw [if_pos rfl]
    exact (hc hf).rr S2 H2 σ I2 _ fun z S3 H3 I3 a3 x3 f3 => ⟨j, m, tr_int x2, tr_int x3, fn _ S3 H3 I3 (aa.trans a3) (by rw [hf]; exact .bl _) trivial⟩
  | false =>
    rw [if_neg Bool.false_ne_true]
    exact fn _ S2 H2 I2 aa (by rw [hf]; exact .bl _) trivial
theorem tv_chainI {op op' : CmpOp} {f g : Int → Int → Bool} {i j m : Int} {d3 : Expr} (ho : ∀ X, InCx c X → OpR X (compareOp op) (rI0 fun i j => .bl (f i j))) (ho' : ∀ X, InCx c X → OpR X (compareOp op') (rI0 fun i j => .bl (g i j)))
    (ha : EV c B a sl true (.st (.int i)) sl) (hb : EV c B b sl true (.st (.int j)) sl) (hc : f i j = true → EV c B d3 sl true (.st (.int m)) sl) (hm : lastMarks [op, op'] [b, d3] = false := by with_unfolding_all rfl) :
    TV c B (.Compare a [op, op'] [b, d3] pos) sl true (f i j && g j m) sl := by
  obtain ⟨ta, ga, sa⟩ := ha
  obtain ⟨tb, gb, sb⟩ := hb
  refine ⟨tTest (tChain _ _ ta tb (rE c d3)), fun X hX => pt_chain (ho X hX) (ho' X hX) (ga X hX) (gb X hX) (pe_rE hX) hm, fun S H σ I Q fn => ?_⟩
  refine sa S H σ I _ fun x S1 H1 I1 a1 x1 f1 => sb S1 H1 σ I1 _ fun y S2 H2 I2 a2 x2 f2 => ?_
  refine ⟨i, j, tr_int x1, tr_int x2, f i j, rfl, ?_⟩
  have aa := a1.trans a2
  cases hf : f i j with
  | true =>
    rw [if_pos rfl]
    exact (hc hf).rr S2 H2 σ I2 _ fun z S3 H3 I3 a3 x3 f3 => ⟨j, m, tr_int x2, tr_int x3, g j m, rfl, by have := fn S3 H3 I3 (aa.trans a3); rw [hf] at this; exact this⟩
  | false =>
    rw [if_neg Bool.false_ne_true]
    exact ⟨false, rfl, by have := fn S2 H2 I2 aa; rw [hf] at this; exact this⟩
end

/-! ## slots -/
section
variable {K : PySem.W.Frag} {B : Bs} {S S' H H' : Hp} {σ : L2.St} {sl : List Sl} {v : V} {i : Nat}
theorem Stt.put (I : Stt K B S H σ sl) (s : Sl) (hs : SlOk K B S H (some v) s) (hd : ∀ a, FpS s (some v) a → ¬ OwnAt σ sl a) (hi : (sl[i]?).isSome = true) : Stt K B S H (σ.set i (some v)) (sl.set i s) := by
  have hl : i < sl.length := by
    cases e : sl[i]? with
    | none => rw [e] at hi; cases hi
    | some _ => exact (List.getElem?_eq_some_iff.mp e).1
  have hlσ : i < σ.length := by rw [I.len]; exact hl
  refine ⟨I.s0, I.sh, I.new, I.keep, I.dom, I.lsd, by rw [List.length_set, List.length_set]; exact I.len, fun j s' e => ?_, fun j1 j2 a x1 x2 => ?_, I.tabs, I.tbk, I.snt, I.sm⟩
  · by_cases hj : j = i
    · subst hj
      rw [List.getElem?_set_self hl] at e
      cases e
      exact ⟨some v, by rw [List.getElem?_set_self hlσ], hs⟩
    · rw [List.getElem?_set_ne (Ne.symm hj)] at e
      obtain ⟨x, hx, ok⟩ := I.slot j s' e
      exact ⟨x, by rw [List.getElem?_set_ne (Ne.symm hj)]; exact hx, ok⟩
  · rcases fpAt_set x1 with ⟨h1, f1⟩ | ⟨h1, f1⟩
    · rcases fpAt_set x2 with ⟨h2, f2⟩ | ⟨h2, f2⟩
      · exact I.dis j1 j2 a f1 f2
      · exact absurd ⟨j1, f1⟩ (hd a f2)
    · rcases fpAt_set x2 with ⟨h2, f2⟩ | ⟨h2, f2⟩
      · exact absurd ⟨j2, f2⟩ (hd a f1)
      · rw [h1, h2]
/-- what an expression's result makes of a slot -/
def Kd.asS : Kd → Sl
  | .st d => .val d
  | .ls _ => .no
  | .fr o => .own o
  | .raw v => .raw v
  | .at _ => .no
  | .nw _ => .no
  | .ft _ => .no
theorem Stt.set {k : Kd} (I : Stt K B S H σ sl) (h : KdOk K B σ sl S H v k) (hi : (sl[i]?).isSome = true) : Stt K B S H (σ.set i (some v)) (sl.set i k.asS) := by
  cases k with
  | st d => exact I.put (.val d) ⟨v, rfl, h⟩ (fun _ m => absurd m fpS_val) hi
  | ls d => exact I.put .no trivial (fun _ m => absurd m fpS_no) hi
  | raw u => exact I.put (.raw u) (by cases h; rfl) (fun _ m => absurd m fpS_raw) hi
  | «at» j => exact I.put .no trivial (fun _ m => absurd m fpS_no) hi
  | nw j => exact I.put .no trivial (fun _ m => absurd m fpS_no) hi
  | ft j => exact I.put .no trivial (fun _ m => absurd m fpS_no) hi
  | fr o =>
    obtain ⟨l, rfl, n, n0, ow, na⟩ := h
    exact I.put (.own o) ⟨l, rfl, n, ow, n0⟩ (fun a m => by have e := fpS_own.mp m; cases e; exact na) hi
/-- a slot is forgotten -/
theorem Stt.drop (I : Stt K B S H σ sl) (i : Nat) : Stt K B S H (σ.set i none) (sl.set i .no) := by
  refine ⟨I.s0, I.sh, I.new, I.keep, I.dom, I.lsd, by rw [List.length_set, List.length_set]; exact I.len, fun j s' e => ?_, fun j1 j2 a x1 x2 => ?_, I.tabs, I.tbk, I.snt, I.sm⟩
  · by_cases hj : j = i
    · subst hj
      have hl : j < sl.length := by
        have := (List.getElem?_eq_some_iff.mp e).1
        rwa [List.length_set] at this
      rw [List.getElem?_set_self hl] at e
      cases e
      exact ⟨none, by rw [List.getElem?_set_self (by rw [I.len]; exact hl)], trivial⟩
    · rw [List.getElem?_set_ne (Ne.symm hj)] at e
      obtain ⟨x, hx, ok⟩ := I.slot j s' e
      exact ⟨x, by rw [List.getElem?_set_ne (Ne.symm hj)]; exact hx, ok⟩
  · rcases fpAt_set x1 with ⟨h1, f1⟩ | ⟨h1, f1⟩
    · rcases fpAt_set x2 with ⟨h2, f2⟩ | ⟨h2, f2⟩
      · exact I.dis j1 j2 a f1 f2
      · exact absurd f2 fpS_no
    · exact absurd f1 fpS_no
/-- what is known of a slot is forgotten -/
theorem Stt.forget (I : Stt K B S H σ sl) (i : Nat) : Stt K B S H σ (sl.set i .no) := by
  refine ⟨I.s0, I.sh, I.new, I.keep, I.dom, I.lsd, by rw [List.length_set]; exact I.len, fun j s' e => ?_, fun j1 j2 a x1 x2 => ?_, I.tabs, I.tbk, I.snt, I.sm⟩
  · by_cases hj : j = i
    · subst hj
      have hl : j < sl.length := by
        have := (List.getElem?_eq_some_iff.mp e).1
        rwa [List.length_set] at this
      rw [List.getElem?_set_self hl] at e
      cases e
      exact ⟨_, List.getElem?_eq_getElem (by rw [I.len]; exact hl), trivial⟩
    · rw [List.getElem?_set_ne (Ne.symm hj)] at e
      exact I.slot j s' e
  · rcases fpAt_setS x1 with ⟨h1, f1⟩ | ⟨h1, _, _, f1⟩
    · rcases fpAt_setS x2 with ⟨h2, f2⟩ | ⟨h2, _, _, f2⟩
      · exact I.dis j1 j2 a f1 f2
      · exact absurd f2 fpS_no
    · exact absurd f1 fpS_no
def wipeS (sl : List Sl) : List Nat → List Sl
  | [] => sl
  | v :: vs => (wipeS sl vs).set v .no
theorem Stt.wipe (I : Stt K B S H σ sl) : ∀ vs : List Nat, Stt K B S H (L2.wipe σ vs) (wipeS sl vs)
  | [] => I
  | v :: vs => (Stt.wipe I vs).drop v
/-- what stands at one place is written; the place is the slot's i own -/
theorem Stt.write (I : Stt K B S H σ sl) {s s' : Sl} {x : Option V} {l : Addr} {u : HO} (hs : sl[i]? = some s) (hx : σ[i]? = some x) (hf : FpS s x l) (hf' : ∀ a, FpS s' x a → FpS s x a ∨ ¬ OwnAt σ sl a) (hok : SlOk K B S (upd H l u) x s') (hls : B.H0 l = none ∨ l ∈ B.ls) : Stt K B S (upd H l u) σ (sl.set i s') := by
  have hlen : i < sl.length := (List.getElem?_eq_some_iff.mp hs).1
  obtain ⟨n0, w0, ew0, nw0⟩ := I.ownAt ⟨i, s, x, hs, hx, hf⟩
  have me : FpAt σ sl i l := ⟨s, x, hs, hx, hf⟩
  refine ⟨I.s0, fun b w e => ?_, I.new, fun b w e hn ht => ?_, fun b w e => ?_, I.lsd, by rw [List.length_set]; exact I.len, fun j s2 e => ?_, fun j1 j2 a y1 y2 => ?_, tabs_upd I.tabs ew0 nw0, tbk_upd I.tbk ew0 nw0, I.snt, I.sm⟩
  · rw [upd_ne (ne_of_none e n0)]
    exact I.sh _ _ e
  · have hb : b ≠ l := fun z => by
      subst z
      rcases hls with h | h
      · rw [e] at h; cases h
      · exact hn h
    rw [upd_ne hb]
    exact I.keep b w e hn ht
  · by_cases hb : b = l
    · rw [hb]; exact ⟨u, upd_same⟩
    · obtain ⟨o2, e2⟩ := I.dom b w e
      exact ⟨o2, by rw [upd_ne hb]; exact e2⟩
  · by_cases hj : j = i
    · subst hj
      rw [List.getElem?_set_self hlen] at e
      cases e
      exact ⟨x, hx, hok⟩
    · rw [List.getElem?_set_ne (Ne.symm hj)] at e
      obtain ⟨y, hy, ok⟩ := I.slot j s2 e
      refine ⟨y, hy, ok.ext (.refl _) (fun a m => ?_) fun a m => (ok.fp m).1⟩
      exact upd_ne fun z => by
        subst z
        exact hj (I.dis j i a ⟨s2, y, e, hy, m⟩ me)
  · have tr : ∀ {j : Nat} {a : Addr}, FpAt σ (sl.set i s') j a → FpAt σ sl j a ∨ (j = i ∧ ¬ OwnAt σ sl a) := fun {j a} y => by
      rcases fpAt_setS y with ⟨_, f⟩ | ⟨h1, x', hx', f⟩
      · exact .inl f
      · rw [hx] at hx'
        cases hx'
        rcases hf' a f with h | h
        · exact .inl ⟨s, x, by rw [h1]; exact hs, by rw [h1]; exact hx, h⟩
        · exact .inr ⟨h1, h⟩
    rcases tr y1 with f1 | ⟨h1, z1⟩
    · rcases tr y2 with f2 | ⟨h2, z2⟩
      · exact I.dis j1 j2 a f1 f2
      · exact absurd ⟨_, f1⟩ z2
    · rcases tr y2 with f2 | ⟨h2, z2⟩
      · exact absurd ⟨_, f2⟩ z1
      · rw [h1, h2]
/-- an own object is changed -/
theorem Stt.mutate (I : Stt K B S H σ sl) {s s' : Sl} {o o' : Ow} {l : Addr} {u : HO} (hs : sl[i]? = some s) (ho : s.ow = some o) (ho' : s'.ow = some o') (hk : (∀ o, s = .own o → s' = .own o') ∧ ∀ j o, s = .io j o → s' = .io j o')
    (hl : σ[i]? = some (some (.ref l))) (hu : OwOk K S (upd H l u) l o') : Stt K B S (upd H l u) σ (sl.set i s') := by
  obtain ⟨x0, hx0, ok0⟩ := I.slot i s hs
  rw [hl] at hx0
  cases hx0
  refine I.write hs hl (.inl ⟨o, ho, rfl⟩) (fun a f => .inl ?_) ?_ ?_
  · rcases f with ⟨o2, h1, h2⟩ | ⟨d, fp, h1, h2⟩
    · exact .inl ⟨o, ho, h2⟩
    · rw [h1] at ho'; cases ho'
  · cases s with
    | own o1 =>
      obtain ⟨_, e1, n, _, e2⟩ := ok0
      cases e1
      rw [hk.1 o1 rfl]
      exact ⟨l, rfl, n, hu, e2⟩
    | io j o1 =>
      obtain ⟨_, e1, n, _, e2⟩ := ok0
      cases e1
      rw [hk.2 j o1 rfl]
      exact ⟨l, rfl, n, hu, e2⟩
    | no => cases ho
    | val d => cases ho
    | raw v => cases ho
    | prv d fp => cases ho
  · cases s with
    | own o1 =>
      obtain ⟨_, e1, _, _, e2⟩ := ok0
      cases e1
      exact .inl e2
    | io j o1 =>
      obtain ⟨_, e1, _, _, e2⟩ := ok0
      cases e1
      exact .inr (List.mem_of_getElem? e2)
    | no => cases ho
    | val d => cases ho
    | raw v => cases ho
    | prv d fp => cases ho
/-- an object that no slot holds is changed -/
theorem Stt.side (I : Stt K B S H σ sl) {l : Addr} {u o : HO} (n : S l = none) (n0 : B.H0 l = none) (na : ¬ OwnAt σ sl l) (ho : H l = some o) (nh : ¬ Hard o) : Stt K B S (upd H l u) σ sl := by
  refine ⟨I.s0, fun b w e => ?_, I.new, fun b w e hn ht => ?_, fun b w e => ?_, I.lsd, I.len, fun j s2 e => ?_, I.dis, tabs_upd I.tabs ho nh, tbk_upd I.tbk ho nh, I.snt, I.sm⟩
  · rw [upd_ne (ne_of_none e n)]
    exact I.sh _ _ e
  · rw [upd_ne (ne_of_none e n0)]
    exact I.keep b w e hn ht
  · obtain ⟨o2, e2⟩ := I.dom b w e
    exact ⟨o2, by rw [upd_ne (ne_of_none e n0)]; exact e2⟩
  · obtain ⟨x, hx, ok⟩ := I.slot j s2 e
    refine ⟨x, hx, ok.ext (.refl _) (fun a m => upd_ne fun z => na ⟨j, s2, x, e, hx, by rw [← z]; exact m⟩) fun a m => (ok.fp m).1⟩
theorem lst_soft {xs : List V} : ¬ Hard (.lst xs) := by rintro (⟨ps, z⟩ | ⟨f, z⟩) <;> cases z
theorem dK_soft {xs : List (Key × V)} : ¬ Hard (.dK xs) := by rintro (⟨ps, z⟩ | ⟨f, z⟩) <;> cases z
theorem dT_soft {xs : List (List Key × V)} : ¬ Hard (.dT xs) := by rintro (⟨ps, z⟩ | ⟨f, z⟩) <;> cases z
theorem tup_soft {xs : List V} : ¬ Hard (.tup xs) := by rintro (⟨ps, z⟩ | ⟨f, z⟩) <;> cases z
end

/-! ## statements -/
/-- an exception: its class's name, its field -/
structure Exn where
  cls : Str
  fld : Option (Str × PyData)
/-- cls, dx are the class and the dict of the exception x -/
def ExnOk (K : PySem.W.Frag) (mg : Str → Option Value) (S : Hp) (cls : Value) (dx : Option Addr) (x : Exn) : Prop :=
  ∃ C : Addr, mg x.cls = some (.ref C) ∧ cls = .ref C ∧ match x.fld with
    | none => dx = none
    | some (f, d) => ∃ (a : Addr) (v : V), dx = some a ∧ S a = some (.xd [(f, v)]) ∧ Tr K S v d
theorem ExnOk.mono {K : PySem.W.Frag} {mg : Str → Option Value} {S S' : Hp} {cls : Value} {dx : Option Addr} {x : Exn} (s : Same S S') (h : ExnOk K mg S cls dx x) : ExnOk K mg S' cls dx x := by
  obtain ⟨C, h1, h2, h3⟩ := h
  refine ⟨C, h1, h2, ?_⟩
  cases e : x.fld with
  | none => rw [e] at h3; exact h3
  | some p =>
    obtain ⟨f, d⟩ := p
    rw [e] at h3
    obtain ⟨a, v, h4, h5, h6⟩ := h3
    exact ⟨a, v, h4, s _ _ h5, h6.mono s⟩
structure Rt where
  nx : List Sl → Prop
  rt : Kd → List Sl → Prop
  bk : List Sl → Prop := fun _ => False
  ct : List Sl → Prop := fun _ => False
  ex : Exn → List Sl → Prop := fun _ _ => False
structure EndOk (c : CxD) (B : Bs) (S : Hp) (D : Ends) (R : Rt) : Prop where
  nx : ∀ S' H' σ' sl', Same S S' → Stt c.K B S' H' σ' sl' → R.nx sl' → D.nx σ' H'
  rt : ∀ S' H' σ' sl' v k, Same S S' → Stt c.K B S' H' σ' sl' → KdOk c.K B σ' sl' S' H' v k → R.rt k sl' → D.rt v H'
  bk : ∀ S' H' σ' sl', Same S S' → Stt c.K B S' H' σ' sl' → R.bk sl' → D.bk σ' H'
  ct : ∀ S' H' σ' sl', Same S S' → Stt c.K B S' H' σ' sl' → R.ct sl' → D.ct σ' H'
  ex : ∀ S' H' σ' sl' cls dx x, Same S S' → Stt c.K B S' H' σ' sl' → ExnOk c.K c.mg S' cls dx x → R.ex x sl' → c.W cls dx σ' H'
theorem EndOk.up {c : CxD} {B : Bs} {S S' : Hp} {D : Ends} {R : Rt} (h : EndOk c B S D R) (s : Same S S') : EndOk c B S' D R :=
  ⟨fun S1 H1 σ1 sl1 a => h.nx S1 H1 σ1 sl1 (s.trans a), fun S1 H1 σ1 sl1 v k a => h.rt S1 H1 σ1 sl1 v k (s.trans a), fun S1 H1 σ1 sl1 a => h.bk S1 H1 σ1 sl1 (s.trans a), fun S1 H1 σ1 sl1 a => h.ct S1 H1 σ1 sl1 (s.trans a), fun S1 H1 σ1 sl1 cls dx x a => h.ex S1 H1 σ1 sl1 cls dx x (s.trans a)⟩
def SemB (c : CxD) (B : Bs) (t : TS) (sl : List Sl) (R : Rt) : Prop := ∀ S H σ, Stt c.K B S H σ sl → ∀ D, EndOk c B S D R → t D σ H
def GO (c : CxD) (B : Bs) (ss : List Stmt) (sl : List Sl) (R : Rt) : Prop := ∃ t, (∀ X, InCx c X → PSs X ss t) ∧ SemB c B t sl R
def G1 (c : CxD) (B : Bs) (s : Stmt) (sl : List Sl) (R : Rt) : Prop := ∃ t, (∀ X, InCx c X → PS X s t) ∧ SemB c B t sl R
section
variable {c : CxD} {B : Bs} {e a b : Expr} {s : Stmt} {ss rest ba bb : List Stmt} {sl sl1 sl2 sl3 : List Sl} {p q r : Bool} {k k1 k2 : Kd} {pos p1 p2 p3 : Pos} {t u : Bool} {R : Rt} {M : List Sl → Prop}
theorem GO.rr (h : GO c B ss sl R) : SemB c B (rB c ss) sl R := fun S H σ I D q => by
  obtain ⟨t, ht, hs⟩ := h
  exact ⟨t, ht, hs S H σ I D q⟩
theorem go_nil (h : R.nx sl) : GO c B [] sl R := ⟨tNext, fun _ _ => pss_nil, fun S H σ I D q => q.nx S H σ sl (.refl _) I h⟩
theorem go_cons (h1 : G1 c B s sl { R with nx := M }) (h2 : ∀ s1, M s1 → GO c B rest s1 R) : GO c B (s :: rest) sl R := by
  obtain ⟨t, ht, hs⟩ := h1
  refine ⟨tSeq t (rB c rest), fun X hX => pss_cons (ht X hX) (ps_rB hX), fun S H σ I D q => ?_⟩
  exact hs S H σ I _ ⟨fun S1 H1 σ1 s1 a I1 m => (h2 s1 m).rr S1 H1 σ1 I1 D (q.up a), q.rt, q.bk, q.ct, q.ex⟩
/-- the last statement -/
theorem go_last (h1 : G1 c B s sl R) : GO c B [s] sl R := by
  obtain ⟨t, ht, hs⟩ := h1
  exact ⟨t, fun X hX => pss_one (ht X hX), hs⟩
/-- from one known state to one known state -/
theorem go_to (h1 : G1 c B s sl { R with nx := fun x => x = sl1 }) (h2 : GO c B rest sl1 R) : GO c B (s :: rest) sl R := go_cons h1 fun _ e => e ▸ h2
theorem g1_ret (h : EV c B e sl p k sl1) (hr : R.rt k sl1) : G1 c B (.Return (some e) pos) sl R := by
  obtain ⟨te, h, hs⟩ := h
  exact ⟨tRet te, fun X hX => ps_ret (h X hX), fun S H σ I D q => hs S H σ I _ fun v S1 H1 I1 a1 x1 _ => q.rt S1 H1 σ sl1 v k a1.s I1 x1 hr⟩
theorem go_ret (h : EV c B e sl p k sl1) (hr : R.rt k sl1) : GO c B (.Return (some e) pos :: rest) sl R := by
  obtain ⟨t, ht, hs⟩ := g1_ret (pos := pos) (R := { R with nx := fun _ => False }) h hr
  exact go_cons (M := fun _ => False) ⟨t, ht, hs⟩ fun _ h => h.elim
theorem g1_expr (h : EV c B e sl p k sl1) (hr : R.nx sl1) (hsw : ∀ env, swapsWith e none pos.line env = pure false := by intro _; rfl) : G1 c B (.Expr e pos) sl R := by
  obtain ⟨te, h, hs⟩ := h
  exact ⟨tDrop te, fun X hX => ps_expr (h X hX) (hsw _), fun S H σ I D q => hs S H σ I _ fun v S1 H1 I1 a1 x1 _ => q.nx S1 H1 σ sl1 a1.s I1 hr⟩
theorem go_expr (h : EV c B e sl p k sl1) (h2 : GO c B rest sl1 R) (hsw : ∀ env, swapsWith e none pos.line env = pure false := by intro _; rfl) : GO c B (.Expr e pos :: rest) sl R := go_to (g1_expr h rfl hsw) h2
theorem g1_pass (hr : R.nx sl) : G1 c B (.Pass pos) sl R := ⟨tNext, fun X hX => ps_pass, fun S H σ I D q => q.nx S H σ sl (.refl _) I hr⟩
theorem g1_break (hr : R.bk sl) : G1 c B (.Break pos) sl R := ⟨tBreak, fun X hX => ps_break, fun S H σ I D q => q.bk S H σ sl (.refl _) I hr⟩
theorem g1_cont (hr : R.ct sl) : G1 c B (.Continue pos) sl R := ⟨tCont, fun X hX => ps_continue, fun S H σ I D q => q.ct S H σ sl (.refl _) I hr⟩
theorem g1_if (h : TV c B e sl p t sl1) (h1 : t = true → GO c B ba sl1 R) (h2 : t = false → GO c B bb sl1 R) : G1 c B (.If e ba bb pos) sl R := by
  obtain ⟨te, h, hs⟩ := h
  refine ⟨tIfS te (rB c ba) (rB c bb), fun X hX => ps_if (h X hX) (ps_rB hX) (ps_rB hX), fun S H σ I D q => ?_⟩
  refine hs S H σ I _ fun S1 H1 I1 a1 => ?_
  cases t with
  | true =>
    rw [if_pos rfl]
    exact (h1 rfl).rr S1 H1 σ I1 D (q.up a1.s)
  | false =>
    rw [if_neg Bool.false_ne_true]
    exact (h2 rfl).rr S1 H1 σ I1 D (q.up a1.s)
/-- an if whose body leaves -/
theorem go_leave (h : TV c B e sl p t sl1) (h1 : t = true → GO c B ba sl1 { R with nx := fun _ => False }) (h2 : t = false → GO c B rest sl1 R) : GO c B (.If e ba [] pos :: rest) sl R := by
  cases t with
  | true => exact go_cons (M := fun _ => False) (g1_if h (fun e => h1 e) fun e => nomatch e) fun _ z => z.elim
  | false => exact go_to (g1_if h (fun e => nomatch e) fun _ => go_nil rfl) (h2 rfl)
/-- an if whose test is known not to hold -/
theorem go_skip (h : TV c B e sl p t sl1) (ht : t = false) (h2 : GO c B rest sl1 R) : GO c B (.If e ba [] pos :: rest) sl R := go_leave h (fun e => by rw [ht] at e; cases e) fun _ => h2
theorem InCx.loc {X : Cx} (h : InCx c X) {x : Str} (hv : c.sc.names.lookup x = some .local ∨ c.sc.names.lookup x = some .cell) : Loc X.env.scope x ∧ (X.fn x = true ∨ X.env.scope.names.lookup x = some .local) := by
  rcases hv with hv | hv
  · exact ⟨.inl (h.l x hv), .inr (h.l x hv)⟩
  · exact ⟨.inr (h.fn x hv).1, .inl (h.fn x hv).2⟩
theorem g1_set (i : Nat) {x : Str} (h : EV c B e sl p k sl1) (hr : R.nx (sl1.set i k.asS)) (hi : (sl1[i]?).isSome = true := by rfl) (hN : c.N[i]? = some x := by rfl) (nd : c.N.Nodup := by assumption) (hx : c.sc.names.lookup x = some .local ∨ c.sc.names.lookup x = some .cell := by first | exact .inl rfl | exact .inr rfl)
    (hsw : ∀ X, InCx c X → swapsWith e (some (.Name x p1)) pos.line X.env = pure false := by intro _ _; rfl) : G1 c B (.Assign [.Name x p1] e pos) sl R := by
  obtain ⟨te, h, hs⟩ := h
  refine ⟨tAsg te (gName i), fun X hX => ps_set (by rw [hX.hN]; exact nd) (by rw [hX.hN]; exact hN) (hX.loc hx).1 (h X hX) (hsw X hX) (hX.loc hx).2, fun S H σ I D q => hs S H σ I _ fun v S1 H1 I1 a1 x1 _ => ?_⟩
  exact q.nx S1 H1 _ _ a1.s (I1.set x1 hi) hr
theorem go_set (i : Nat) {x : Str} (h : EV c B e sl p k sl1) (h2 : GO c B rest (sl1.set i k.asS) R) (hi : (sl1[i]?).isSome = true := by rfl) (hN : c.N[i]? = some x := by rfl) (nd : c.N.Nodup := by assumption) (hx : c.sc.names.lookup x = some .local ∨ c.sc.names.lookup x = some .cell := by first | exact .inl rfl | exact .inr rfl)
    (hsw : ∀ X, InCx c X → swapsWith e (some (.Name x p1)) pos.line X.env = pure false := by intro _ _; rfl) : GO c B (.Assign [.Name x p1] e pos :: rest) sl R := go_to (g1_set i h rfl hi hN nd hx hsw) h2
/-- n += e, whole numbers -/
theorem go_augI (i : Nat) {x : Str} {m n : Int} (hs : sl[i]? = some (.val (.int m)) := by rfl) (h : EV c B e sl p (.st (.int n)) sl1) (h2 : GO c B rest (sl1.set i (.val (.int (m + n)))) R) (hi : (sl1[i]?).isSome = true := by rfl) (hN : c.N[i]? = some x := by rfl) (nd : c.N.Nodup := by assumption) (hx : c.sc.names.lookup x = some .local ∨ c.sc.names.lookup x = some .cell := by first | exact .inl rfl | exact .inr rfl) :
    GO c B (.AugAssign (.Name x p1) .Add e pos :: rest) sl R := by
  obtain ⟨te, h, hh⟩ := h
  refine go_to ⟨tAug i te _, fun X hX => ps_aug (by rw [hX.hN]; exact nd) (by rw [hX.hN]; exact hN) (hX.loc hx).1 (h X hX) ip_add (hX.loc hx).2, fun S H σ I D q => ?_⟩ h2
  obtain ⟨v, hv, tv⟩ := I.val hs
  refine ⟨v, hv, hh S H σ I _ fun w S1 H1 I1 a1 x1 _ => ?_⟩
  refine ⟨m, n, tr_int tv, tr_int x1, ?_⟩
  exact q.nx S1 H1 _ _ a1.s (I1.set (k := .st (.int (m + n))) (.int _) hi) rfl
theorem go_augSub (i : Nat) {x : Str} {m n : Int} (hs : sl[i]? = some (.val (.int m)) := by rfl) (h : EV c B e sl p (.st (.int n)) sl1) (h2 : GO c B rest (sl1.set i (.val (.int (m - n)))) R) (hi : (sl1[i]?).isSome = true := by rfl) (hN : c.N[i]? = some x := by rfl) (nd : c.N.Nodup := by assumption) (hx : c.sc.names.lookup x = some .local ∨ c.sc.names.lookup x = some .cell := by first | exact .inl rfl | exact .inr rfl) :
    GO c B (.AugAssign (.Name x p1) .Sub e pos :: rest) sl R := by
  obtain ⟨te, h, hh⟩ := h
  refine go_to ⟨tAug i te _, fun X hX => ps_aug (by rw [hX.hN]; exact nd) (by rw [hX.hN]; exact hN) (hX.loc hx).1 (h X hX) ip_sub (hX.loc hx).2, fun S H σ I D q => ?_⟩ h2
  obtain ⟨v, hv, tv⟩ := I.val hs
  refine ⟨v, hv, hh S H σ I _ fun w S1 H1 I1 a1 x1 _ => ?_⟩
  refine ⟨m, n, tr_int tv, tr_int x1, ?_⟩
  exact q.nx S1 H1 _ _ a1.s (I1.set (k := .st (.int (m - n))) (.int _) hi) rfl
/-- while, by a word and a measure -/
theorem g1_while (J : Nat → List Sl → Prop) (m0 : Nat) (h0 : J m0 sl) (hs : ∀ m s1, J m s1 → ∃ p b s2, TV c B e s1 p b s2 ∧ (b = true → GO c B ba s2 ⟨fun s => ∃ m', m' < m ∧ J m' s, R.rt, R.nx, fun s => ∃ m', m' < m ∧ J m' s, R.ex⟩) ∧ (b = false → R.nx s2)) :
    G1 c B (.While e ba [] pos) sl R := by
  refine ⟨tWhile (rT c e) (rB c ba), fun X hX => ps_while hX.po (pt_rT hX) (ps_rB hX), fun S H σ I D q => ?_⟩
  refine ⟨fun m σ H => ∃ S1 s1, Same S S1 ∧ Stt c.K B S1 H σ s1 ∧ J m s1, ⟨m0, S, sl, .refl _, I, h0⟩, ?_⟩
  rintro m σ1 H1 ⟨S1, s1, a1, I1, j1⟩
  obtain ⟨p, b, s2, ht, hb1, hb2⟩ := hs m s1 j1
  refine ht.rr S1 H1 σ1 I1 _ fun S2 H2 I2 a2 => ?_
  cases b with
  | true =>
    rw [if_pos rfl]
    refine ⟨fun σ' H' => ∃ m', m' < m ∧ ∃ S3 s3, Same S S3 ∧ Stt c.K B S3 H' σ' s3 ∧ J m' s3, fun σ' H' h => h, ?_⟩
    refine (hb1 rfl).rr S2 H2 σ1 I2 _ ⟨fun S3 H3 σ3 s3 a3 I3 ⟨m', hm, j3⟩ => ⟨m', hm, S3, s3, (a1.trans a2.s).trans a3, I3, j3⟩, fun S3 H3 σ3 s3 v k a3 I3 x3 h3 => q.rt S3 H3 σ3 s3 v k ((a1.trans a2.s).trans a3) I3 x3 h3,
      fun S3 H3 σ3 s3 a3 I3 h3 => q.nx S3 H3 σ3 s3 ((a1.trans a2.s).trans a3) I3 h3, fun S3 H3 σ3 s3 a3 I3 ⟨m', hm, j3⟩ => ⟨m', hm, S3, s3, (a1.trans a2.s).trans a3, I3, j3⟩,
      fun S3 H3 σ3 s3 cls dx x a3 I3 z h => q.ex S3 H3 σ3 s3 cls dx x ((a1.trans a2.s).trans a3) I3 z h⟩
  | false =>
    rw [if_neg Bool.false_ne_true]
    exact q.nx S2 H2 σ1 s2 (a1.trans a2.s) I2 (hb2 rfl)
end

/-! ## what a loop walks -/
def ItOk (K : PySem.W.Frag) (J : It) (S G : Hp) (ds : List PyData) : Prop :=
  ∀ S1 H1, Same S S1 → Same S1 H1 → Sam G H1 → ∀ i : Nat, (∀ d, ds[i]? = some d → J.go i H1 ∧ ∀ x H2, J.yld i H1 x H2 → ∃ S2, Same S1 S2 ∧ Same S2 H2 ∧ Same H1 H2 ∧ (∀ a o, S2 a = some o → S1 a = none → H1 a = none) ∧ (NoT S1 → NoT S2) ∧ Tr K S2 x d) ∧ (ds.length ≤ i → J.stop i H1)
/-- z: the walked thing does not change any more -/
def EI (c : CxD) (B : Bs) (tg e : Expr) (sl : List Sl) (p : Bool) (ds : List PyData) (z : Bool) (sl' : List Sl) : Prop :=
  ∃ wi, (∀ X, InCx c X → PI X tg e wi) ∧ ∀ S H σ, Stt c.K B S H σ sl → ∀ R : It → Hp → Prop, (∀ J S' H', Stt c.K B S' H' σ sl' → Adv σ sl S H sl' S' H' p → ItOk c.K J S' (if z then S' else H') ds → R J H') → wi σ H R
section
variable {c : CxD} {B : Bs} {tg e a b : Expr} {sl sl1 sl2 sl3 : List Sl} {p q r z : Bool} {k k1 k2 : Kd} {pos p1 p2 p3 : Pos} {ds es : List PyData} {i j : Int}
theorem itl_ok {K : PySem.W.Frag} {S G : Hp} {l : Addr} {xs : List V} (h : SqL K G l xs) (t : Trs K S xs ds) : ItOk K (Itl K l) S G ds := fun S1 H1 s1 s2 g1 i => by
  have hq : SqL K H1 l xs := g1.seq h
  refine ⟨fun d hd => ?_, fun hl => ⟨xs, hq, by rw [t.len]; exact hl⟩⟩
  obtain ⟨v, hv, tv⟩ := t.get hd
  refine ⟨⟨xs, v, hq, hv⟩, fun x H2 y => ?_⟩
  obtain ⟨rfl, y⟩ := y
  have e := y xs hq
  rw [hv] at e
  cases e
  exact ⟨S1, .refl _, s2, .refl _, fun a o h1 h2 => (by rw [h1] at h2; cases h2), id, tv.mono s1⟩
theorem ei_list (h : EV c B e sl p (.st (.list ds)) sl1) : EI c B tg e sl p ds true sl1 := by
  obtain ⟨te, h, hs⟩ := h
  refine ⟨iList c.K te, fun X hX => by have := pi_list (tg := tg) (h X hX); rw [hX.hK] at this; exact this, fun S H σ I R q => hs S H σ I _ fun v S1 H1 I1 a1 x1 _ => ?_⟩
  obtain ⟨l, xs, rfl, hq, t⟩ := tr_lst x1
  exact ⟨l, rfl, ⟨xs, I1.sh.seq hq⟩, q _ S1 H1 I1 a1 (itl_ok (by rw [if_pos rfl]; exact hq) t)⟩
theorem ei_ls (h : EV c B e sl p k sl1) (hl : LsK k ds := by first | exact .st | exact .ls | exact .fr) : EI c B tg e sl p ds false sl1 := by
  obtain ⟨te, h, hs⟩ := h
  refine ⟨iList c.K te, fun X hX => by have := pi_list (tg := tg) (h X hX); rw [hX.hK] at this; exact this, fun S H σ I R q => hs S H σ I _ fun v S1 H1 I1 a1 x1 _ => ?_⟩
  obtain ⟨l, xs, rfl, hq, t⟩ := hl.rd I1 x1
  exact ⟨l, rfl, ⟨xs, hq⟩, q _ S1 H1 I1 a1 (itl_ok (by rw [if_neg Bool.false_ne_true]; exact hq) t)⟩
/-- lo, lo + 1, .. -/
def upI (lo : Int) (n : Nat) : List PyData := (List.range n).map fun (m : Nat) => PyData.int (lo + (m : Int))
theorem upI_get {lo : Int} {n m : Nat} (h : m < n) : (upI lo n)[m]? = some (.int (lo + m)) := by
  unfold upI
  rw [List.getElem?_map, List.getElem?_range h]
  rfl
theorem upI_len (lo : Int) (n : Nat) : (upI lo n).length = n := by unfold upI; rw [List.length_map, List.length_range]
theorem itr_ok {K : PySem.W.Frag} {S G : Hp} {lo : Int} {n : Nat} : ItOk K (Itr lo n) S G (upI lo n) := fun S1 H1 s1 s2 g1 i => by
  refine ⟨fun d hd => ?_, fun hl => by rw [upI_len] at hl; exact hl⟩
  have hi : i < n := by
    have := (List.getElem?_eq_some_iff.mp hd).1
    rwa [upI_len] at this
  rw [upI_get hi] at hd
  cases hd
  refine ⟨hi, fun x H2 y => ?_⟩
  obtain ⟨rfl, rfl⟩ := y
  exact ⟨S1, .refl _, s2, .refl _, fun a o h1 h2 => (by rw [h1] at h2; cases h2), id, .int _⟩
theorem ei_range1 {n : Int} (h : EV c B a sl p (.st (.int n)) sl1) (hn : -(2 ^ 62) ≤ n ∧ n < 2 ^ 62) (hm : c.mg "range" = none) (hg : c.sc.names.lookup ("range" : Str) = some .globalImplicit := by rfl) (he : ∀ env, starEach [a] env = (false, eval a env) :: starEach [] env := by intro env; rfl) :
    EI c B tg (.Call (.Name "range" p1) [a] [] pos) sl p (upI 0 n.toNat) z sl1 := by
  have hh := av_cons h (av_nil (sl := sl1)) rfl he
  obtain ⟨ta, g, hs⟩ := hh
  refine ⟨iRng1 ta, fun X hX => pi_range1 (hX.g _ hg) (by rw [hX.hm]; exact hm) (g X hX) (he _), fun S H σ I R q => hs S H σ I _ fun vs S1 H1 I1 a1 x1 => ?_⟩
  obtain ⟨v, rfl, hk⟩ := one_arg x1
  exact ⟨n, by rw [tr_int hk], hn.1, hn.2, q _ S1 H1 I1 (a1.weak fun e => by rw [e]; rfl) itr_ok⟩
theorem ei_range2 {m n : Int} (h : EV c B a sl p (.st (.int m)) sl1) (h' : EV c B b sl1 q (.st (.int n)) sl2) (hn : -(2 ^ 62) ≤ m ∧ m < 2 ^ 62 ∧ -(2 ^ 62) ≤ n ∧ n < 2 ^ 62) (hm : c.mg "range" = none) (hg : c.sc.names.lookup ("range" : Str) = some .globalImplicit := by rfl)
    (he : ∀ env, starEach [a, b] env = (false, eval a env) :: starEach [b] env := by intro env; rfl) (he2 : ∀ env, starEach [b] env = (false, eval b env) :: starEach [] env := by intro env; rfl) :
    EI c B tg (.Call (.Name "range" p1) [a, b] [] pos) sl (p && q) (upI m (n - m).toNat) z sl2 := by
  have hh := av_cons h (av_cons h' (av_nil (sl := sl2)) rfl he2) (by simp [Kd.firm]) he
  obtain ⟨ta, g, hs⟩ := hh
  refine ⟨iRng2 ta, fun X hX => pi_range2 (hX.g _ hg) (by rw [hX.hm]; exact hm) (g X hX) (by rw [he, he2]; rfl) (by rw [he2]; rfl), fun S H σ I R q' => hs S H σ I _ fun vs S1 H1 I1 a1 x1 => ?_⟩
  obtain ⟨v, w, rfl, hk, hk2⟩ := two_arg x1
  exact ⟨m, n, by rw [tr_int hk, tr_int hk2], hn, q' _ S1 H1 I1 (a1.weak fun e => by rw [Bool.and_true]; exact e) itr_ok⟩
/-- pairs of a number and an item -/
def numbered (ds : List PyData) : List PyData := ds.zipIdx.map fun x => .tuple [.int (x.2 : Nat), x.1]
theorem numbered_get {n : Nat} {d : PyData} (h : ds[n]? = some d) : (numbered ds)[n]? = some (.tuple [.int (n : Nat), d]) := by
  unfold numbered
  rw [List.getElem?_map, List.getElem?_zipIdx, h]
  simp
theorem numbered_len : (numbered ds).length = ds.length := by unfold numbered; simp
theorem ite_ok {K : PySem.W.Frag} {S G : Hp} {l : Addr} {xs : List V} (h : SqL K G l xs) (t : Trs K S xs ds) : ItOk K (Ite K l) S G (numbered ds) := fun S1 H1 s1 s2 g1 i => by
  have hq : SqL K H1 l xs := g1.seq h
  refine ⟨fun d hd => ?_, fun hl => ⟨xs, hq, by rw [numbered_len] at hl; rw [t.len]; exact hl⟩⟩
  have hi : i < ds.length := by
    have := (List.getElem?_eq_some_iff.mp hd).1
    rwa [numbered_len] at this
  rw [numbered_get (List.getElem?_eq_getElem hi)] at hd
  cases hd
  obtain ⟨v, hv, tv⟩ := t.get (List.getElem?_eq_getElem hi)
  refine ⟨⟨xs, v, hq, hv⟩, fun x H2 y => ?_⟩
  obtain ⟨T, y, rfl, nT, rfl, hy⟩ := y
  have e := hy xs hq
  rw [hv] at e
  cases e
  have nS : S1 T = none := s2.free nT
  have ss : Same S1 (upd S1 T (.tup [.int (i : Nat), v])) := same_new nS
  refine ⟨_, ss, fun b o e => ?_, same_new nT, fun b o h1 h2 => ?_, fun nt => noT_upd nt trivial, .tup (.inl (.inl upd_same)) (.cons (.int _) (.cons (tv.mono (s1.trans ss)) .nil))⟩
  · by_cases eb : b = T
    · rw [eb, upd_same] at e ⊢
      exact e
    · rw [upd_ne eb] at e ⊢
      exact s2 _ _ e
  · by_cases eb : b = T
    · rw [eb]; exact nT
    · rw [upd_ne eb, h2] at h1
      cases h1
theorem ei_enum {es : List Expr} {kk : Nat} {tpos : Pos} (h : EV c B a sl p k sl1) (hm : c.mg "enumerate" = none) (hl : LsK k ds := by first | exact .st | exact .ls | exact .fr) (hz : z = true → k = .st (.list ds) := by intro h; first | rfl | cases h)
    (hg : c.sc.names.lookup ("enumerate" : Str) = some .globalImplicit := by rfl) (he : ∀ env, starEach [a] env = (false, eval a env) :: starEach [] env := by intro env; rfl) :
    EI c B (.Tuple es kk tpos) (.Call (.Name "enumerate" p1) [a] [] pos) sl p (numbered ds) z sl1 := by
  obtain ⟨ta, g, hs⟩ := av_cons h (av_nil (sl := sl1)) rfl he
  refine ⟨iEnum c.K ta, fun X hX => by have := pi_enum (pos := pos) (p := p1) (elts := es) (kk := kk) (tpos := tpos) (hX.g _ hg) (by rw [hX.hm]; exact hm) (g X hX) (he _); rw [hX.hK] at this; exact this, fun S H σ I R q => hs S H σ I _ fun vs S1 H1 I1 a1 x1 => ?_⟩
  obtain ⟨v, rfl, hk⟩ := one_arg x1
  obtain ⟨l, xs, rfl, hq, t⟩ := hl.rd I1 hk
  refine ⟨l, xs, rfl, hq, q _ S1 H1 I1 (a1.weak fun e => by rw [e]; rfl) ?_⟩
  cases z with
  | false => exact ite_ok (by rw [if_neg Bool.false_ne_true]; exact hq) t
  | true =>
    cases hz rfl
    obtain ⟨l', xs', e', hq', t'⟩ := tr_lst hk
    cases e'
    exact ite_ok (by rw [if_pos rfl]; exact hq') t'
end

/-! ## targets -/
/-- the tree d goes to the target: js are the slots that are written -/
def GT (c : CxD) (B : Bs) (tg : Expr) (d : PyData) (js : List Nat) (sl sl' : List Sl) : Prop :=
  ∃ g : TG, (∀ X, InCx c X → PG X tg g) ∧ ∀ S H σ v, Stt c.K B S H σ sl → Tr c.K S v d → ∀ Q : L2.St → Hp → Prop, (∀ σ', Stt c.K B S H σ' sl' → σ'.length = σ.length → (∀ i, i ∉ js → σ'[i]? = σ[i]?) → Q σ' H) → g v σ H Q
def GTs (c : CxD) (B : Bs) (tgs : List Expr) (ds : List PyData) (js : List Nat) (sl sl' : List Sl) : Prop :=
  ∃ g : TGs, (∀ X, InCx c X → PGs X tgs g) ∧ ∀ S H σ vs, Stt c.K B S H σ sl → Trs c.K S vs ds → ∀ Q : L2.St → Hp → Prop, (∀ σ', Stt c.K B S H σ' sl' → σ'.length = σ.length → (∀ i, i ∉ js → σ'[i]? = σ[i]?) → Q σ' H) → g vs σ H Q
section
variable {c : CxD} {B : Bs} {tg e a b : Expr} {sl sl1 sl2 sl3 : List Sl} {pos : Pos} {d : PyData} {ds : List PyData} {js js2 : List Nat} {tgs : List Expr}
theorem gt_name (i : Nat) {x : Str} (hi : (sl[i]?).isSome = true := by rfl) (hN : c.N[i]? = some x := by rfl) (nd : c.N.Nodup := by assumption) (hx : c.sc.names.lookup x = some .local ∨ c.sc.names.lookup x = some .cell := by first | exact .inl rfl | exact .inr rfl) : GT c B (.Name x pos) d [i] sl (sl.set i (.val d)) :=
  ⟨gName i, fun X hX => pg_name (by rw [hX.hN]; exact nd) (by rw [hX.hN]; exact hN) (hX.loc hx).1 (hX.loc hx).2, fun S H σ v I t Q q => q _ (I.set (k := .st d) t hi) (by rw [List.length_set]) fun j hj => by
    rw [List.getElem?_set_ne]
    intro e
    exact hj (by rw [e]; exact List.mem_singleton.mpr rfl)⟩
theorem gts_nil : GTs c B [] [] [] sl sl := ⟨gNil, fun _ _ => pgs_nil, fun S H σ vs I t Q q => by cases t; exact ⟨rfl, q σ I rfl fun _ _ => rfl⟩⟩
theorem gts_cons (h1 : GT c B tg d js sl sl1) (h2 : GTs c B tgs ds js2 sl1 sl2) (hs : ∀ env, (assignEach (tg :: tgs) env).map (·.2) = assign tg env :: (assignEach tgs env).map (·.2) := by intro env; rfl) : GTs c B (tg :: tgs) (d :: ds) (js ++ js2) sl sl2 := by
  obtain ⟨g1, p1, s1⟩ := h1
  obtain ⟨g2, p2, s2⟩ := h2
  refine ⟨gCons g1 g2, fun X hX => pgs_cons (p1 X hX) (p2 X hX) (hs _), fun S H σ vs I t Q q => ?_⟩
  cases t with
  | cons h t =>
    refine ⟨_, _, rfl, s1 S H σ _ I h _ fun σ1 I1 l1 k1 => s2 S H σ1 _ I1 t Q fun σ2 I2 l2 k2 => q σ2 I2 (l2.trans l1) fun i hi => ?_⟩
    exact (k2 i fun z => hi (List.mem_append_right _ z)).trans (k1 i fun z => hi (List.mem_append_left _ z))
theorem gt_tup {kk : Nat} (h : GTs c B tgs ds js sl sl1) (hn : ∀ env, (assignEach tgs env).length = ds.length := by intro env; rfl) (hst : ∀ env, (assignEach tgs env).findIdx? (·.1) = none := by intro env; rfl) : GT c B (.Tuple tgs kk pos) (.tuple ds) js sl sl1 := by
  obtain ⟨g, pp, s⟩ := h
  refine ⟨gTup c.K ds.length g, fun X hX => by have := pg_tup (pos := pos) (k := kk) hX.calm (pp X hX) (hn _) (hst _); rw [hX.hK] at this; exact this, fun S H σ v I t Q q => ?_⟩
  obtain ⟨l, xs, rfl, hq, t⟩ := tr_tup t
  exact ⟨l, xs, rfl, Sam.sqt (same_sam I.sh) hq, t.len, s S H σ xs I t Q q⟩
/-- a, b = e -/
theorem g1_asg {R : Rt} {p : Bool} {p1 : Pos} (he : EV c B e sl p (.st d) sl1) (hg : GT c B tg d js sl1 sl2) (hr : R.nx sl2) (hs : ∀ env, swapsWithSole [tg] e pos.line env = pure false := by intro _; rfl) (hw : ∀ env, swappedStores [tg] e env = pure none := by intro _; rfl)
    (h1 : ∀ env, (assignEach [tg] env).map (·.2) = [assign tg env] := by intro _; rfl) : G1 c B (.Assign [tg] e pos) sl R := by
  obtain ⟨te, g1, s1⟩ := he
  obtain ⟨g, pp, s2⟩ := hg
  refine ⟨tAsg te g, fun X hX => ps_asg (g1 X hX) (pp X hX) (hs _) (hw _) (h1 _), fun S H σ I D q => s1 S H σ I _ fun v S1 H1 I1 a1 x1 _ => ?_⟩
  exact s2 S1 H1 σ v I1 x1 _ fun σ' I2 _ _ => q.nx S1 H1 σ' sl2 a1.s I2 hr
theorem go_asg {R : Rt} {p : Bool} {rest : List Stmt} (he : EV c B e sl p (.st d) sl1) (hg : GT c B tg d js sl1 sl2) (h2 : GO c B rest sl2 R) (hs : ∀ env, swapsWithSole [tg] e pos.line env = pure false := by intro _; rfl) (hw : ∀ env, swappedStores [tg] e env = pure none := by intro _; rfl)
    (h1 : ∀ env, (assignEach [tg] env).map (·.2) = [assign tg env] := by intro _; rfl) : GO c B (.Assign [tg] e pos :: rest) sl R := go_to (g1_asg (p1 := pos) he hg rfl hs hw h1) h2
/-- for -/
theorem g1_for {R : Rt} {p : Bool} {ba : List Stmt} (hi : EI c B tg e sl p ds true sl1) (J : Nat → List Sl → Prop) (h0 : J 0 sl1) (hs : ∀ i d s, ds[i]? = some d → J i s → ∃ js s2, GT c B tg d js s s2 ∧ GO c B ba s2 ⟨J (i + 1), R.rt, R.nx, J (i + 1), R.ex⟩) (hd : ∀ s, J ds.length s → R.nx s)
    (hf : ∀ env x, foldedSetIterable e env x = pure x := by intro _ _; rfl) : G1 c B (.For tg e ba [] pos) sl R := by
  obtain ⟨wi, gi, si⟩ := hi
  have gg : ∃ g : TG, (∀ X, InCx c X → PG X tg g) ∧ ∀ d s js s2, GT c B tg d js s s2 → ∀ S H σ v, Stt c.K B S H σ s → Tr c.K S v d → ∀ Q : L2.St → Hp → Prop, (∀ σ', Stt c.K B S H σ' s2 → Q σ' H) → g v σ H Q :=
    ⟨fun v σ H Q => ∃ g : TG, (∀ X, InCx c X → PG X tg g) ∧ g v σ H Q, fun X hX => ⟨fun pins s σ H v u Q I r ⟨g, hg, h⟩ => (hg X hX).run pins s σ H v u Q I r h⟩, fun d s js s2 ⟨g, hg, sg⟩ S H σ v I t Q q => ⟨g, hg, sg S H σ v I t Q fun σ' I' _ _ => q σ' I'⟩⟩
  obtain ⟨g, pg, sg⟩ := gg
  refine ⟨tFor wi g (rB c ba), fun X hX => ps_for hX.po hX.calm (gi X hX) (pg X hX) (ps_rB hX) (hf _), fun S H σ I D q => si S H σ I _ fun It S1 H1 I1 a1 it => ?_⟩
  rw [if_pos rfl] at it
  refine ⟨fun i m σ H => m = ds.length - i ∧ i ≤ ds.length ∧ ∃ S2 s2, Same S1 S2 ∧ Stt c.K B S2 H σ s2 ∧ J i s2, ⟨ds.length, by simp, Nat.zero_le _, S1, sl1, .refl _, I1, h0⟩, ?_⟩
  rintro i m σ2 H2 ⟨rfl, hi, S2, s2, a2, I2, j2⟩
  obtain ⟨it1, it2⟩ := it S2 H2 a2 I2.sh (same_sam (a2.trans I2.sh)) i
  by_cases hlt : i < ds.length
  · obtain ⟨go, yl⟩ := it1 _ (List.getElem?_eq_getElem hlt)
    refine .inr ⟨go, fun σ' H' => ∃ S3 s3, Same S1 S3 ∧ Stt c.K B S3 H' σ' s3 ∧ J (i + 1) s3, fun σ' H' h => ⟨ds.length - (i + 1), by omega, rfl, hlt, h⟩, fun x H3 y => ?_⟩
    obtain ⟨S3, b1, b2, b3, b4, bn, tx⟩ := yl x H3 y
    have I3 := I2.grow b1 b3 b2 b4 (bn I2.snt)
    obtain ⟨js, s4, gt, go4⟩ := hs i _ s2 (List.getElem?_eq_getElem hlt) j2
    refine sg _ _ _ _ gt S3 H3 σ2 x I3 tx _ fun σ4 I4 => ?_
    have up : Same S1 S3 := a2.trans b1
    exact go4.rr S3 H3 σ4 I4 _ ⟨fun S5 H5 σ5 s5 c1 I5 j5 => ⟨S5, s5, up.trans c1, I5, j5⟩, fun S5 H5 σ5 s5 v k c1 I5 x5 h5 => q.rt S5 H5 σ5 s5 v k ((a1.s.trans up).trans c1) I5 x5 h5,
      fun S5 H5 σ5 s5 c1 I5 h5 => q.nx S5 H5 σ5 s5 ((a1.s.trans up).trans c1) I5 h5, fun S5 H5 σ5 s5 c1 I5 j5 => ⟨S5, s5, up.trans c1, I5, j5⟩,
      fun S5 H5 σ5 s5 cls dx x c1 I5 z h => q.ex S5 H5 σ5 s5 cls dx x ((a1.s.trans up).trans c1) I5 z h⟩
  · have e1 : i = ds.length := by omega
    subst e1
    exact .inl ⟨it2 (Nat.le_refl _), q.nx S2 H2 σ2 s2 (a1.s.trans a2) I2 (hd s2 j2)⟩
end
end Mw

/-! MwE: comprehensions; lists that change; defs, their promises, their calls. -/
namespace Mw
open PySem PySem.Spec L2
variable [Tb]

/-! ## comprehensions -/
def noW : WX := fun _ _ _ _ => False
def CxD.blk (c : CxD) (sc : Scope) : CxD := { c with sc := sc, W := noW, top := false, xt := { c.xt with ext := fun _ => True } }
theorem lookup_re {cnd : Str → NameKind → Bool} {x : Str} : ∀ {l : List (Str × NameKind)}, (l.map fun (n, k) => if cnd n k then (n, NameKind.cell) else (n, k)).lookup x = (l.lookup x).map fun k => if cnd x k then NameKind.cell else k
  | [] => rfl
  | (n, k) :: r => by
    have ih := lookup_re (cnd := cnd) (x := x) (l := r)
    rw [List.map_cons]
    by_cases h : x = n
    · subst h
      show List.lookup x ((if cnd x k = true then (x, NameKind.cell) else (x, k)) :: _) = _
      cases hc : cnd x k <;> simp [List.lookup_cons, hc]
    · have hb : (x == n) = false := beq_eq_false_iff_ne.mpr h
      show List.lookup x ((if cnd n k = true then (n, NameKind.cell) else (n, k)) :: _) = _
      cases hc : cnd n k <;> simp [List.lookup_cons, hb] <;> exact ih
theorem InCx.block {c : CxD} {X : Cx} (h : InCx c X) {scope : Scope} (hsk : scope.kind = .function := by assumption) {s : Shared} {H : Hp} {C : Addr} {cl : List (Str × Addr)} {fp : List Addr} : InCx (c.blk scope) (X.blk s H scope (compEnvC scope cl C X.env) fp) := by
  have lk : ∀ {x : Str} {k : NameKind}, scope.names.lookup x = some k → (relabel scope X.env).names.lookup x = some (if (k == .free && X.env.scope.kind == .function && X.env.kindOf x == some .cell) then NameKind.cell else k) := fun {x k} e => by
    have h1 := lookup_re (cnd := fun n k => k == .free && X.env.scope.kind == .function && X.env.kindOf n == some .cell) (x := x) (l := scope.names)
    rw [e] at h1
    exact h1
  have lc : ∀ {x : Str}, scope.names.lookup x = some .cell → (relabel scope X.env).names.lookup x = some .cell := fun e => lk e
  have ll : ∀ {x : Str}, scope.names.lookup x = some .local → (relabel scope X.env).names.lookup x = some .local := fun e => lk e
  have lg : ∀ {x : Str}, scope.names.lookup x = some .globalImplicit → (relabel scope X.env).names.lookup x = some .globalImplicit := fun e => lk e
  have lf : ∀ {x : Str}, scope.names.lookup x = some .free → (relabel scope X.env).names.lookup x = some .cell ∨ (relabel scope X.env).names.lookup x = some .free := fun {x} e => by
    rw [lk e]
    split
    · exact .inl rfl
    · exact .inr rfl
  refine ⟨h.hP, h.hw, h.hK, h.hm, h.hb, h.hN, h.calm, hsk, h.gu, h.rm, fun x hv => ?_, fun x hv => ll hv, fun x hv => lg hv, fun x hv => ?_, fun x hv => ⟨lc hv, ?_⟩, PassesOwn.never, takes0, (fun z => nomatch z), h.cd, h.ql, fun _ _ => trivial⟩
  · rcases hv with e | e | e
    · exact .inl (ll e)
    · exact .inr (.inl (lc e))
    · exact .inr (lf e)
  · rcases hv with e | e
    · exact .inl (lc e)
    · exact lf e
  · show (scope.names.lookup x == some .cell) = true
    rw [show scope.names.lookup x = some .cell from hv]; rfl
/-- the ifs of a comprehension -/
def TVs (c : CxD) (B : Bs) (es : List Expr) (sl : List Sl) (b : Bool) : Prop := ∃ t, (∀ X, InCx c X → PTs X es t) ∧ SemT c.K B t sl true b sl
section
variable {c : CxD} {B : Bs} {tg e a b elt iter : Expr} {ifs : List Expr} {sl sl1 sl2 sl3 : List Sl} {p q z t : Bool} {k k1 k2 : Kd} {pos p1 p2 p3 : Pos} {ds es : List PyData} {i j : Int} {scope : Scope} {own : List (Str × Nat)}
theorem tvs_nil : TVs c B [] sl true := ⟨tYes, fun _ _ => pts_nil, fun S H σ I Q q => q S H I .refl⟩
theorem tvs_one (h : TV c B e sl true t sl) : TVs c B [e] sl t := by
  obtain ⟨te, h, hs⟩ := h
  exact ⟨te, fun X hX => pts_one (h X hX), hs⟩
theorem wipe_get {σ : L2.St} {m : Nat} : ∀ {vs : List Nat}, (L2.wipe σ vs)[m]? = if m ∈ vs then (σ[m]?).map fun _ => none else σ[m]?
  | [] => by simp [L2.wipe]
  | v :: vs => by
    have ih := wipe_get (σ := σ) (m := m) (vs := vs)
    unfold L2.wipe
    by_cases h : m = v
    · subst h
      rw [List.getElem?_set]
      simp only [if_true]
      rw [wipe_length]
      by_cases hm : m < σ.length
      · simp [hm]
      · simp [hm]
    · rw [List.getElem?_set_ne (Ne.symm h), ih]
      simp [h]
theorem wipe_same {σ σ' : L2.St} {vs js : List Nat} (hj : ∀ x ∈ js, x ∈ vs) (hl : σ'.length = (L2.wipe σ vs).length) (h : ∀ m, m ∉ js → σ'[m]? = (L2.wipe σ vs)[m]?) : L2.wipe σ' vs = L2.wipe σ vs := by
  refine List.ext_getElem? fun m => ?_
  rw [wipe_get, wipe_get]
  by_cases hm : m ∈ vs
  · rw [if_pos hm, if_pos hm]
    rw [wipe_length] at hl
    by_cases hlt : m < σ.length
    · rw [List.getElem?_eq_getElem hlt, List.getElem?_eq_getElem (by omega)]; rfl
    · rw [List.getElem?_eq_none (by omega), List.getElem?_eq_none (by omega)]
  · rw [if_neg hm, if_neg hm, h m fun z => hm (hj m z), wipe_get, if_neg hm]
theorem comp_core (f : PyData → Option PyData) (hi : EI c B tg iter sl p ds z sl1)
    (hs : ∀ (i : Nat) (d : PyData), ds[i]? = some d → ∃ js s2 b, GT (c.blk scope) B tg d js (wipeS sl1 (own.map (·.2))) s2 ∧ (∀ x ∈ js, x ∈ own.map (·.2)) ∧ TVs (c.blk scope) B ifs s2 b ∧ (b = true → ∃ d', f d = some d' ∧ EV (c.blk scope) B elt s2 true (.st d') s2) ∧ (b = false → f d = none))
    (hl : ds.length ≤ 1000000) : ∃ wi g tt, (∀ X, InCx c X → PI X tg iter wi) ∧ (∀ X, InCx (c.blk scope) X → PG X tg g) ∧ (∀ X, InCx (c.blk scope) X → PTs X ifs tt) ∧
      SemE c.K B (tLc wi g tt (rE (c.blk scope) elt) (own.map (·.2))) sl p (.fr (.lst (ds.filterMap f))) sl1 := by
  obtain ⟨wi, gi, si⟩ := hi
  let c' := c.blk scope
  let g : TG := fun v σ H Q => ∃ g : TG, (∀ X, InCx c' X → PG X tg g) ∧ g v σ H Q
  let tt : TT := fun σ H Q => ∃ t, (∀ X, InCx c' X → PTs X ifs t) ∧ t σ H Q
  have gP : ∀ X, InCx c' X → PG X tg g := fun X hX => ⟨fun pins s σ H v u Q I r ⟨g, hg, h⟩ => (hg X hX).run pins s σ H v u Q I r h⟩
  have tP : ∀ X, InCx c' X → PTs X ifs tt := fun X hX => ⟨fun pins s σ H Q I ⟨t, ht, h⟩ => (ht X hX).run pins s σ H Q I h⟩
  refine ⟨wi, g, tt, gi, gP, tP, fun S H σ I Q fn => si S H σ I _ fun It S1 H1 I1 a1 it => ?_⟩
  · intro D nD
    obtain ⟨nS1, n01, naD⟩ := I1.notIn nD
    refine ⟨fun i m H => m = ds.length - i ∧ i ≤ ds.length ∧ ∃ S2 acc, Same S1 S2 ∧ (∀ a o, S2 a = some o → S1 a = none → H1 a = none) ∧ S2 D = none ∧ Stt c.K B S2 H σ sl1 ∧ Sam H1 H ∧ H D = some (.lst acc) ∧ Trs c.K S2 acc ((ds.take i).filterMap f),
      ⟨ds.length, by simp, Nat.zero_le _, S1, [], .refl _, fun a o h1 h2 => (by rw [h1] at h2; cases h2), nS1, I1.laid nD, same_sam (same_new nD), upd_same, .nil⟩, ?_⟩
    rintro i m H2 ⟨rfl, hil, S2, acc, s2, n2, nS2, I2, h2, hD, tacc⟩
    obtain ⟨it1, it2⟩ := it S2 H2 s2 I2.sh (by
      cases z with
      | true => rw [if_pos rfl]; exact same_sam (s2.trans I2.sh)
      | false => rw [if_neg Bool.false_ne_true]; exact h2) i
    by_cases hlt : i < ds.length
    · have hget := List.getElem?_eq_getElem hlt
      obtain ⟨go, yl⟩ := it1 _ hget
      refine .inr ⟨go, fun H' => ∃ S2 acc, Same S1 S2 ∧ (∀ a o, S2 a = some o → S1 a = none → H1 a = none) ∧ S2 D = none ∧ Stt c.K B S2 H' σ sl1 ∧ Sam H1 H' ∧ H' D = some (.lst acc) ∧ Trs c.K S2 acc ((ds.take (i + 1)).filterMap f),
        fun H' h => ⟨ds.length - (i + 1), by omega, rfl, hlt, h⟩, fun x H3 y => ?_⟩
      obtain ⟨S3, b1, b2, b3, b4, bn, tx⟩ := yl x H3 y
      have I3 := I2.grow b1 b3 b2 b4 (bn I2.snt)
      have keepD : ∀ {S4 H4}, LamX.Tabs Tb.T H4 → NoT S4 → Same S3 S4 → Sam H3 H4 → (∀ a o, S4 a = some o → S3 a = none → H3 a = none) → Same S4 H4 → Stt c.K B S4 H4 σ sl1 ∧ S4 D = none ∧ (∀ a o, S4 a = some o → S1 a = none → H1 a = none) ∧ H4 D = some (.lst acc) ∧ Sam H1 H4 := fun {S4 H4} tb nt4 q1 q2 q3 q4 => by
        have hD3 : H3 D = some (.lst acc) := b3 _ _ hD
        have n3 : S3 D = none := by
          cases e : S3 D with
          | none => rfl
          | some o =>
            have := b4 D o e nS2
            rw [hD] at this
            cases this
        have n4 : S4 D = none := by
          cases e : S4 D with
          | none => rfl
          | some o =>
            have := q3 D o e n3
            rw [hD3] at this
            cases this
        refine ⟨I3.growS q1 q2 q4 q3 tb nt4, n4, fun a o e1 e2 => ?_, q2.st _ _ hD3 (fun ps z => nomatch z), (h2.trans (same_sam b3)).trans q2⟩
        cases e3 : S3 a with
        | none =>
          have e4 := q3 a o e1 e3
          exact (h2.trans (same_sam b3)).free e4
        | some o3 =>
          cases e4 : S2 a with
          | none => exact h2.free (b4 a o3 e3 e4)
          | some o4 => exact n2 a o4 e4 e2
      obtain ⟨js, s4, b, ⟨g0, gp0, gs0⟩, hj, ⟨t0, tp0, ts0⟩, hy, hn⟩ := hs i _ hget
      refine ⟨g0, gp0, gs0 S3 H3 _ x (I3.wipe _) tx _ fun σ' I' l' k' => ⟨wipe_same hj l' k', t0, tp0, ?_⟩⟩
      refine ts0 S3 H3 σ' I' _ fun S4 H4 I4 a4 => ?_
      have cat : (ds.take (i + 1)).filterMap f = (ds.take i).filterMap f ++ (f ds[i]).toList := by
        rw [List.take_succ, hget, List.filterMap_append]
        show _ ++ List.filterMap f [ds[i]] = _
        cases e : f ds[i] with
        | none => rw [List.filterMap_cons_none e]; rfl
        | some y => rw [List.filterMap_cons_some e]; rfl
      cases b with
      | true =>
        rw [if_pos rfl]
        obtain ⟨d', hd', ev⟩ := hy rfl
        refine ev.rr S4 H4 σ' I4 _ fun y S5 H5 I5 a5 x5 _ => ?_
        have a45 := a4.trans a5
        obtain ⟨J, nD5, nw5, hD5, h15⟩ := keepD (S4 := S5) (H4 := H5) I5.tabs I5.snt a45.s (a45.h rfl) a45.n I5.sh
        refine ⟨acc, hD5, ?_, S5, acc ++ [y], (s2.trans b1).trans a45.s, nw5, nD5, J.side nD5 n01 naD hD5 lst_soft, ⟨fun a o e hnt => ?_, fun a ps e => ?_⟩, upd_same, ?_⟩
        · have e1 := tacc.len
          have e2 : ((ds.take i).filterMap f).length ≤ (ds.take i).length := List.length_filterMap_le _ _
          rw [List.length_take] at e2
          rw [sizeLine_eq]
          omega
        · rw [upd_ne (ne_of_none e nD)]
          exact h15.st _ _ e hnt
        · rw [upd_ne (ne_of_none e nD)]
          exact h15.tb _ _ e
        · rw [cat, hd']
          exact (tacc.mono (b1.trans a45.s)).app (.one x5)
      | false =>
        rw [if_neg Bool.false_ne_true]
        obtain ⟨J, nD5, nw5, hD5, h15⟩ := keepD (S4 := S4) (H4 := H4) I4.tabs I4.snt a4.s (a4.h rfl) a4.n I4.sh
        refine ⟨S4, acc, (s2.trans b1).trans a4.s, nw5, nD5, J, h15, hD5, ?_⟩
        rw [cat, hn rfl]
        show Trs c.K S4 acc (_ ++ [])
        rw [List.append_nil]
        exact tacc.mono (b1.trans a4.s)
    · have e1 : i = ds.length := by omega
      subst e1
      refine .inl ⟨it2 (Nat.le_refl _), ?_⟩
      rw [List.take_length] at tacc
      refine fn _ S2 H2 I2 (a1.trans (q := true) ⟨s2, n2, fun a o e => h2.dom e, fun a o e hnt _ => h2.st _ _ e hnt, fun _ => h2, fun _ h => h⟩ |>.weak fun h => by rw [h]; rfl) ⟨D, rfl, nS2, n01, ⟨acc, hD, tacc⟩, naD⟩ fun l e => ?_
      cases e
      cases e2 : H D with
      | none => rfl
      | some o =>
        obtain ⟨o', e3⟩ := a1.d D o e2
        rw [nD] at e3
        cases e3
theorem blk_in {X : Cx} (hX : InCx c X) (ok : blkC c.N c.sc scope own = true) : BlkOk X.N X.env.scope scope own := by
  have bk := blkOk_by ok
  exact ⟨bk.kind, bk.uniq, by rw [hX.hN]; exact bk.ix, fun y hy e => hX.f _ (bk.free y hy e), by rw [hX.hN]; exact bk.own⟩
theorem ev_comp (own : List (Str × Nat)) (f : PyData → Option PyData) (hi : EI c B tg iter sl p ds z sl1)
    (hs : ∀ (i : Nat) (d : PyData), ds[i]? = some d → ∃ js s2 b, GT (c.blk scope) B tg d js (wipeS sl1 (own.map (·.2))) s2 ∧ (∀ x ∈ js, x ∈ own.map (·.2)) ∧ TVs (c.blk scope) B ifs s2 b ∧ (b = true → ∃ d', f d = some d' ∧ EV (c.blk scope) B elt s2 true (.st d') s2) ∧ (b = false → f d = none))
    (hl : ds.length ≤ 1000000) (ok : blkC c.N c.sc scope own = true := by (try dsimp only [CxD.blk]); decide +kernel) (nd : c.N.Nodup := by assumption) (hf : ∀ env x, foldedSetIterable iter env x = pure x := by intro _ _; rfl) : EV c B (.ListComp elt [⟨tg, iter, ifs, 0⟩] scope pos) sl p (.fr (.lst (ds.filterMap f))) sl1 := by
  obtain ⟨wi, g, tt, gi, gP, tP, sem⟩ := comp_core f hi hs hl
  have sk : scope.kind = .function := (blkOk_by ok).kind
  exact ⟨_, fun X hX => pe_lc hX.calm (by rw [hX.hN]; exact nd) (gi X hX) (blk_in hX ok) (fun s H C cl fp => gP _ (hX.block sk)) (fun s H C cl fp => tP _ (hX.block sk)) (fun s H C cl fp => pe_rE (hX.block sk)) (hf _), sem⟩
/-- name = [..], kept as it is (own) or for good (val) -/
theorem g1_setC {R : Rt} (i : Nat) {y : Str} (own : List (Str × Nat)) (f : PyData → Option PyData) (hi : EI c B tg iter sl p ds z sl1)
    (hs : ∀ (i : Nat) (d : PyData), ds[i]? = some d → ∃ js s2 b, GT (c.blk scope) B tg d js (wipeS sl1 (own.map (·.2))) s2 ∧ (∀ x ∈ js, x ∈ own.map (·.2)) ∧ TVs (c.blk scope) B ifs s2 b ∧ (b = true → ∃ d', f d = some d' ∧ EV (c.blk scope) B elt s2 true (.st d') s2) ∧ (b = false → f d = none))
    (hr : R.nx (sl1.set i (.own (.lst (ds.filterMap f))))) (hl : ds.length ≤ 1000000) (ok : blkC c.N c.sc scope own = true := by (try dsimp only [CxD.blk]); decide +kernel) (hii : (sl1[i]?).isSome = true := by rfl) (hN : c.N[i]? = some y := by rfl) (nd : c.N.Nodup := by assumption) (hx : c.sc.names.lookup y = some .local := by rfl) (hk : (scope.names.any fun (n, k) => n == y && (k == .local || k == .cell)) = false := by decide +kernel) (hln : (p1.line == pos.line) = true := by rfl)
    (hf : ∀ env x, foldedSetIterable iter env x = pure x := by intro _ _; rfl) : G1 c B (.Assign [.Name y p1] (.ListComp elt [⟨tg, iter, ifs, 0⟩] scope pos) p2) sl R := by
  obtain ⟨wi, g, tt, gi, gP, tP, sem⟩ := comp_core f hi hs hl
  have sk : scope.kind = .function := (blkOk_by ok).kind
  refine ⟨_, fun X hX => ps_setLc hX.calm (by rw [hX.hN]; exact nd) (by rw [hX.hN]; exact hN) (hX.l _ hx) (sw_true hX.kind (hX.l _ hx) hln hk) (gi X hX) (blk_in hX ok) (fun s H C cl fp => gP _ (hX.block sk)) (fun s H C cl fp => tP _ (hX.block sk)) (fun s H C cl fp => pe_rE (hX.block sk)) (hf _), fun S H σ I D q => ?_⟩
  exact sem S H σ I _ fun v S1 H1 I1 a1 x1 _ => q.nx S1 H1 _ _ a1.s (I1.set x1 hii) hr
end
end Mw

/-! MwF: lists that change; defs, their promises, their calls. -/
namespace Mw
open PySem PySem.Spec L2
variable [Tb]

section
variable {K : PySem.W.Frag} {B : Bs} {S S' H H' : Hp} {σ : L2.St} {sl : List Sl} {i : Nat} {l : Addr}
/-- the tables where other things were locked -/
theorem tabs_lk {T : List (Addr × Str)} {Hl : Hp} (t : LamX.Tabs T H) (h : ∀ a o, H a = some o → Hard o → Hl a = some o) : LamX.Tabs T Hl := fun p hp => by
  obtain ⟨ps, h1, h2, h3⟩ := t p hp
  refine ⟨ps, h _ _ h1 (.inl ⟨ps, rfl⟩), h2, fun pos cv hc => ?_⟩
  obtain ⟨c, e1, e2⟩ := h3 pos cv hc
  refine ⟨c, e1, h _ _ e2 (.inr ?_)⟩
  unfold LamX.CodeO
  exact ⟨_, rfl⟩
/-- what a slot holds for itself will not change any more; its dicts are locked -/
theorem Stt.frzS (I : Stt K B S H σ sl) {Hl : Hp} {s : Sl} {x : Option V} {fp : List Addr} {d : PyData} (hs : sl[i]? = some s) (hx : σ[i]? = some x) (hf : ∀ a ∈ fp, FpS s x a) (hn : ∀ a ∈ fp, B.H0 a = none) (hl : ∀ a, a ∉ fp → Hl a = H a) (hk : ∀ a ∈ fp, ∀ o, Hl a = some o → Stb o) (ht : SlOk K B (layS S Hl fp) Hl x (.val d)) : Same S (layS S Hl fp) ∧ Stt K B (layS S Hl fp) Hl σ (sl.set i (.val d)) := by
  have hlen : i < sl.length := (List.getElem?_eq_some_iff.mp hs).1
  have nS : ∀ a ∈ fp, S a = none := fun a m => (I.ownAt ⟨i, s, x, hs, hx, hf a m⟩).1
  have s1 := layS_ext (H := Hl) nS
  have nf : ∀ a o, H a = some o → Hard o → a ∉ fp := fun a o e h m => by
    obtain ⟨_, u, eu, nu⟩ := I.ownAt ⟨i, s, x, hs, hx, hf a m⟩
    rw [e] at eu; cases eu; exact nu h
  refine ⟨s1, I.s0.trans s1, fun b u e1 => ?_, fun b u e1 e2 => ?_, fun b u e1 e2 e3 => ?_, fun b u e1 => ?_, I.lsd, by rw [List.length_set]; exact I.len, fun j s2 es => ?_, fun j1 j2 a y1 y2 => ?_, tabs_lk I.tabs (fun a o e h => (hl a (nf a o e h)).trans e), fun a ps e => ?_, fun a o e => ?_, I.sm⟩
  · by_cases m : b ∈ fp
    · rw [layS_in m] at e1; exact e1
    · rw [layS_out m] at e1; rw [hl b m]; exact I.sh _ _ e1
  · by_cases m : b ∈ fp
    · exact hn b m
    · rw [layS_out m] at e1; exact I.new b u e1 e2
  · rw [hl b fun m => by rw [hn b m] at e1; cases e1]; exact I.keep b u e1 e2 e3
  · rw [hl b fun m => by rw [hn b m] at e1; cases e1]; exact I.dom b u e1
  · by_cases hj : j = i
    · subst hj
      rw [List.getElem?_set_self hlen] at es
      cases es
      exact ⟨x, hx, ht⟩
    · rw [List.getElem?_set_ne (Ne.symm hj)] at es
      obtain ⟨y, hy, ok⟩ := I.slot j s2 es
      have ap : ∀ a, FpS s2 y a → a ∉ fp := fun a m m2 => hj (I.dis j i a ⟨s2, y, es, hy, m⟩ ⟨s, x, hs, hx, hf a m2⟩)
      refine ⟨y, hy, ok.ext s1 (fun a m => hl a (ap a m)) fun a m => ?_⟩
      rw [layS_out (ap a m)]
      exact (ok.fp m).1
  · rcases fpAt_setS y1 with ⟨h1, f1⟩ | ⟨h1, _, _, f1⟩
    · rcases fpAt_setS y2 with ⟨h2, f2⟩ | ⟨h2, _, _, f2⟩
      · exact I.dis j1 j2 a f1 f2
      · exact absurd f2 fpS_val
    · exact absurd f1 fpS_val
  · obtain ⟨ps', e1⟩ := I.tbk a ps e
    exact ⟨ps', (hl a (nf a _ e1 (.inl ⟨ps', rfl⟩))).trans e1⟩
  · by_cases m : a ∈ fp
    · rw [layS_in m] at e
      exact hk a m o e
    · rw [layS_out m] at e; exact I.snt a o e
/-- a changing list that will not change any more -/
theorem Stt.frz (I : Stt K B S H σ sl) {ds : List PyData} (hs : sl[i]? = some (.own (.lst ds))) : ∃ S', Same S S' ∧ Stt K B S' H σ (sl.set i (.val (.list ds))) := by
  obtain ⟨x, hx, l, rfl, n, ⟨xs, e, tr⟩, n0⟩ := I.slot i _ hs
  have s1 := layS_ext (S := S) (H := H) (gp := [l]) (by simpa using n)
  exact ⟨_, I.frzS (Hl := H) (fp := [l]) hs hx (by simp [fpS_own]) (by simpa using n0) (fun _ _ => rfl) (fun a m o e1 => by rw [List.mem_singleton.mp m, e] at e1; cases e1; trivial) ⟨_, rfl, .lst (.inl (.inl ((layS_in (by simp)).trans e))) (tr.mono s1)⟩⟩
/-- .. a changing dict, once it is locked -/
theorem Stt.frzD (I : Stt K B S H σ sl) {kvs : List (Key × PyData)} (hs : sl[i]? = some (.own (.dct kvs))) : ∃ d, (∃ u, H d = some (.dK u)) ∧ ∀ od, ∃ S', Same S S' ∧ Stt K B S' (lkH H [d] fun _ => od) σ (sl.set i (.val (.dict (kvs.map fun p => (keyD p.1, p.2))))) := by
  obtain ⟨x, hx, l, rfl, n, ⟨xs, e, tr⟩, n0⟩ := I.slot i _ hs
  refine ⟨l, ⟨xs, e⟩, fun od => ?_⟩
  have s1 := layS_ext (S := S) (H := lkH H [l] fun _ => od) (gp := [l]) (by simpa using n)
  have el : lkH H [l] (fun _ => od) l = some (.frz od (.dK xs)) := lkH_in (by simp) e
  refine ⟨_, I.frzS (Hl := lkH H [l] fun _ => od) (fp := [l]) hs hx (by simp [fpS_own]) (by simpa using n0) (fun a m => lkH_out m) (fun a m o e1 => by rw [List.mem_singleton.mp m, el] at e1; cases e1; trivial) ⟨_, rfl, .dct (.inr ⟨od, (layS_in (by simp)).trans el⟩) ?_⟩⟩
  have go : ∀ {xs : List (Key × V)} {kvs : List (Key × PyData)}, Paired (fun p q => p.1 = q.1 ∧ Tr K S p.2 q.2) xs kvs → Trk K (layS S (lkH H [l] fun _ => od) [l]) xs (kvs.map fun p => (keyD p.1, p.2)) := by
    intro xs kvs t
    induction t with
    | nil => exact .nil
    | @cons p q _ _ h t ih =>
      obtain ⟨k, v⟩ := p
      obtain ⟨e1, e2⟩ := h
      cases e1
      exact .cons (e2.mono s1) ih
  exact go tr
theorem Stt.frzP (I : Stt K B S H σ sl) {d : PTr} {fp : List Addr} (hs : sl[i]? = some (.prv d fp)) (od : Addr → Obj) : (∀ a ∈ dks H fp, ∃ kvs, H a = some (.dK kvs)) ∧ (dks H fp).Nodup ∧ ∃ S', Same S S' ∧ Stt K B S' (lkH H (dks H fp) od) σ (sl.set i (.val d.d)) := by
  obtain ⟨x, hx, v, rfl, t, nd, n⟩ := I.slot i _ hs
  obtain ⟨t1, t2⟩ := t.frzL (fun a m => (n a m).1) od
  exact ⟨fun a m => (dks_mem m).2, nd.filter _, _, I.frzS (Hl := lkH H (dks H fp) od) (fp := fp) hs hx (fun a m => fpS_prv.mpr m) (fun a m => (n a m).2) (fun a m => lkH_out fun z => m (dks_mem z).1) t2 ⟨v, rfl, t1⟩⟩
/-! ### locking for good -/
theorem inv_lkH {X : Cx} {pins : List (Addr × Obj)} {σ : L2.St} {s : Shared} : ∀ (ls : List Addr) (H : Hp), Inv X pins σ H s → (∀ d ∈ ls, ∃ kvs, H d = some (.dK kvs)) → ls.Nodup → ∃ od, Inv X pins σ (lkH H ls od) s
  | [], H, I, _, _ => ⟨fun _ => ⟨.none, none, .fields #[], #[]⟩, by rw [lkH_nil]; exact I⟩
  | d :: ls, H, I, h, nd => by
    obtain ⟨kvs, e⟩ := h d List.mem_cons_self
    obtain ⟨nd1, nd2⟩ := List.nodup_cons.mp nd
    obtain ⟨od1, I1⟩ := I.lock e (show Mut (some (.dK kvs)) from trivial)
    obtain ⟨od2, I2⟩ := inv_lkH ls _ I1 (fun b m => by
      obtain ⟨k2, e2⟩ := h b (List.mem_cons_of_mem _ m)
      exact ⟨k2, by rw [upd_ne fun z => nd1 (by rw [← z]; exact m)]; exact e2⟩) nd2
    refine ⟨fun a => if a = d then od1 else od2 a, ?_⟩
    have : lkH H (d :: ls) (fun a => if a = d then od1 else od2 a) = lkH (upd H d (.frz od1 (.dK kvs))) ls od2 := by
      funext a
      by_cases ea : a = d
      · subst ea
        rw [lkH_in List.mem_cons_self e, lkH_out nd1, upd_same, if_pos rfl]
      · by_cases m : a ∈ ls
        · obtain ⟨k2, e2⟩ := h a (List.mem_cons_of_mem _ m)
          rw [lkH_in (List.mem_cons_of_mem _ m) e2, lkH_in m (by rw [upd_ne ea]; exact e2), if_neg ea]
        · rw [lkH_out (by simp [ea, m]), lkH_out m, upd_ne ea]
    rw [this]
    exact I2
def tLk (t : TS) : TS := fun D σ H => ∃ ls : List Addr, (∀ d ∈ ls, ∃ kvs, H d = some (.dK kvs)) ∧ ls.Nodup ∧ ∀ od, t D σ (lkH H ls od)
theorem pss_lk {X : Cx} {ss : List Stmt} {t : TS} (h : PSs X ss t) : PSs X ss (tLk t) :=
  ⟨fun pins s σ H D I hw => by
    obtain ⟨ls, e, nd, k⟩ := hw
    obtain ⟨od, I'⟩ := inv_lkH ls H I e nd
    exact h.run pins s σ _ D I' (k od)⟩
def tLkE (t : TE) : TE := fun σ H Q => t σ H fun v H' => ∃ ls : List Addr, (∀ d ∈ ls, ∃ kvs, H' d = some (.dK kvs)) ∧ ls.Nodup ∧ ∀ od, Q v (lkH H' ls od)
theorem pe_lkE {X : Cx} {e : Expr} {t : TE} (h : PE X e t) : PE X e (tLkE t) :=
  ⟨fun pins s σ H Q I hw => thn (h.run pins s σ H _ I hw) fun v s1 ⟨x, H1, I1, r, ls, e, nd, q⟩ => by
    obtain ⟨od, I2⟩ := inv_lkH ls H1 I1 e nd
    exact ⟨x, _, I2, r, q od⟩⟩
/-- the state behind something that changed one own object -/
theorem Stt.after (I : Stt K B S H σ sl) {s s' : Sl} {o o' : Ow} (hs : sl[i]? = some s) (ho : s.ow = some o) (ho' : s'.ow = some o') (hk : (∀ o, s = .own o → s' = .own o') ∧ ∀ j o, s = .io j o → s' = .io j o') (hl : σ[i]? = some (some (.ref l)))
    (ss : Same S S') (sh : Same S' H') (n : ∀ a o, S' a = some o → S a = none → H a = none) (kp : ∀ a o, H a = some o → (∀ ps, o ≠ .tbl ps) → a ≠ l → H' a = some o) (kt : ∀ a ps, H a = some (.tbl ps) → ∃ ps', H' a = some (.tbl ps')) (tb : LamX.Tabs Tb.T H') (nt : NoT S') (nl : S' l = none) (ow : OwOk K S' H' l o') : Stt K B S' H' σ (sl.set i s') := by
  obtain ⟨l0, e0, n0, ow0⟩ := I.own hs ho
  rw [hl] at e0
  cases e0
  obtain ⟨u0, eu0, nu0⟩ := ow0.soft
  obtain ⟨u1, eu1, nu1⟩ := ow.soft
  let H1 : Hp := fun a => if a = l then H l else H' a
  have h1l : H1 l = H l := if_pos rfl
  have h1n : ∀ a, a ≠ l → H1 a = H' a := fun a ha => if_neg ha
  have e0 : H1 = upd H' l u0 := by
    funext a
    by_cases ea : a = l
    · rw [ea, h1l, upd_same, eu0]
    · rw [upd_ne ea, h1n a ea]
  have I1 : Stt K B S' H1 σ sl := I.growS ss ⟨fun a w e hnt => by
    by_cases ea : a = l
    · rw [ea, h1l]; rw [ea] at e; exact e
    · rw [h1n a ea]; exact kp a w e hnt ea, fun a ps e => by
    have ea : a ≠ l := fun z => by rw [z, eu0] at e; exact nu0 (.inl ⟨ps, Option.some.inj e⟩)
    rw [h1n a ea]; exact kt a ps e⟩ (fun a w e => by
    have ea : a ≠ l := ne_of_none e nl
    rw [h1n a ea]; exact sh _ _ e) n (by rw [e0]; exact tabs_upd tb eu1 nu1) nt
  have e2 : upd H1 l u1 = H' := by
    funext a
    by_cases ea : a = l
    · rw [ea, upd_same, eu1]
    · rw [upd_ne ea, h1n a ea]
  have := I1.mutate (u := u1) hs ho ho' hk hl (by rw [e2]; exact ow)
  rwa [e2] at this
end
/-- the slot holds another content -/
def Sl.put : Sl → Ow → Sl
  | .own _, o => .own o
  | .io j _, o => .io j o
  | s, _ => s
theorem put_ow {s : Sl} {o o' : Ow} (h : s.ow = some o) : (s.put o').ow = some o' := by cases s <;> first | rfl | cases h
theorem put_kind {s : Sl} {o' : Ow} : (∀ o, s = .own o → s.put o' = .own o') ∧ ∀ j o, s = .io j o → s.put o' = .io j o' := ⟨fun o e => by rw [e]; rfl, fun j o e => by rw [e]; rfl⟩
section
variable {c : CxD} {B : Bs} {e a b : Expr} {es : List Expr} {ss rest : List Stmt} {sl sl1 sl2 sl3 : List Sl} {p q : Bool} {k k1 k2 : Kd} {ks : List Kd} {pos p1 p2 p3 : Pos} {R : Rt} {d : PyData} {ds ds' : List PyData} {s : Sl}
theorem go_frz (i : Nat) (h : GO c B ss (sl.set i (.val (.list ds))) R) (hs : sl[i]? = some (.own (.lst ds)) := by rfl) : GO c B ss sl R := by
  refine ⟨rB c ss, fun X hX => ps_rB hX, fun S H σ I D q => ?_⟩
  obtain ⟨S', s1, I'⟩ := I.frz hs
  exact h.rr S' H σ I' D (q.up s1)
/-- .. a dict -/
theorem go_frzD (i : Nat) {kvs : List (Key × PyData)} (h : GO c B ss (sl.set i (.val (.dict (kvs.map fun p => (keyD p.1, p.2))))) R) (hs : sl[i]? = some (.own (.dct kvs)) := by rfl) : GO c B ss sl R := by
  refine ⟨tLk (rB c ss), fun X hX => pss_lk (ps_rB hX), fun S H σ I D q => ?_⟩
  obtain ⟨d, hd, k⟩ := I.frzD hs
  refine ⟨[d], fun b m => by rw [List.mem_singleton.mp m]; exact hd, by simp, fun od => ?_⟩
  obtain ⟨S', s1, I'⟩ := k (od d)
  have e : lkH H [d] od = lkH H [d] fun _ => od d := by
    funext a
    by_cases ea : a = d
    · subst ea
      obtain ⟨u, e⟩ := hd
      rw [lkH_in (by simp) e, lkH_in (by simp) e]
    · rw [lkH_out (by simpa using ea), lkH_out (by simpa using ea)]
  rw [e]
  exact h.rr S' _ σ I' D (q.up s1)
/-- name = [..], kept for good -/
theorem go_fix {R : Rt} (i : Nat) {x : Str} (h : EV c B e sl p (.fr (.lst ds)) sl1) (h2 : GO c B rest (sl1.set i (.val (.list ds))) R) (hi : (sl1[i]?).isSome = true := by rfl) (hN : c.N[i]? = some x := by rfl) (nd : c.N.Nodup := by assumption) (hx : c.sc.names.lookup x = some .local ∨ c.sc.names.lookup x = some .cell := by first | exact .inl rfl | exact .inr rfl)
    (hsw : ∀ X, InCx c X → swapsWith e (some (.Name x p1)) pos.line X.env = pure false := by intro _ _; rfl) : GO c B (.Assign [.Name x p1] e pos :: rest) sl R := go_set i h.fz h2 hi hN nd hx hsw
theorem mut_adv {K : PySem.W.Frag} {S H : Hp} {σ : L2.St} {i : Nat} {l : Addr} {u : HO} {o' : Ow} (I : Stt K B S H σ sl) {o : Ow} (hs : sl[i]? = some s) (ho : s.ow = some o) (hl : σ[i]? = some (some (.ref l))) : Adv σ sl S H (sl.set i (s.put o')) S (upd H l u) false := by
  refine ⟨.refl _, fun a o h1 h2 => (by rw [h1] at h2; cases h2), fun a w e => ?_, fun a w e _ na => ?_, (fun h => nomatch h), fun a h => ?_⟩
  · by_cases ea : a = l
    · rw [ea]; exact ⟨u, upd_same⟩
    · exact ⟨w, by rw [upd_ne ea]; exact e⟩
  · have ea : a ≠ l := fun z => na ⟨i, .of_ow hs ho (by rw [hl, z])⟩
    rw [upd_ne ea]
    exact e
  · rcases ownAt_setS h with h | ⟨x, hx, f⟩
    · exact h
    · rw [hl] at hx
      cases hx
      rcases f with ⟨o2, _, e⟩ | ⟨d, fp, e, _⟩
      · cases e; exact ⟨i, .of_ow hs ho hl⟩
      · cases s with
        | no => cases ho
        | val d => cases ho
        | raw d => cases ho
        | prv d fp => cases ho
        | own o => cases e
        | io j o => cases e
/-- x.name(e, ..) of a changing list -/
theorem ev_mut {name : Str} {id : String} {r : V → List V → Hp → VK → Prop} (i : Nat) {x : Str} (pa : PlainAttrs "list") (slot : Slot "list" name id) (hty : typeOf (.builtin id) = pure (.type "method_descriptor")) (hm : ∀ X, InCx c X → MtR X id r) (ha : AV c B (e :: es) sl true ks sl)
    (hr : ∀ B σ S H l vs xs, Stt c.K B S H σ sl → KdsOk c.K B σ sl S H vs ks → H l = some (.lst xs) → Trs c.K S xs ds → ∀ Q : VK, (∀ v ys, Tr c.K S v d → Trs c.K S ys ds' → Q v (upd H l (.lst ys))) → r (.ref l) vs H Q)
    (hs : sl[i]? = some s := by rfl) (ho : s.ow = some (.lst ds) := by rfl) (hN : c.N[i]? = some x := by rfl) (hv : Vis c.sc x := by first | exact .inl rfl | exact .inr (.inl rfl) | exact .inr (.inr rfl))
    (h1 : (x == ("__debug__" : Str)) = false := by decide) (h2 : (x == ("__classdict__" : Str)) = false := by decide) (hbase : ∀ env, attributeBase (.Name x p1) name env (eval (.Name x p1) env) = eval (.Name x p1) env := by intro _; rfl)
    (hfew : ∀ env, ((backTo p3 (starEach (e :: es) env)).all (fun x => !x.1) && (backToKw p3 (keywordEach [] env)).all (fun x => x.1.isSome) && decide ((e :: es).length + ([] : List Keyword).length + (if ([] : List Keyword).isEmpty then 0 else 1) < 30)) = true := by intro _; rfl)
    (hline : (p2.endLine == p3.line) = true := by rfl) (hst : ∀ env, starEach (e :: es) env = (false, eval e env) :: starEach es env := by intro _; rfl) (hpl : ∀ env, (backTo p3 (starEach es env)).any (·.1) = false := by intro _; rfl) :
    EV c B (.Call (.Attribute (.Name x p1) name p2) (e :: es) [] p3) sl false (.st d) (sl.set i (s.put (.lst ds'))) := by
  obtain ⟨ta, ga, sa⟩ := ha
  refine ⟨tBM c.K "list" r (tVar i) ta, fun X hX => by have := pe_bm pa slot hty (hm X hX) (pe_var (X := X) (i := i) (pos := p1) (by rw [hX.hN]; exact hN) (hX.v x hv) h1 h2) (ga X hX) (apos := p2) (cpos := p3) (hbase _) (hfew _) hline (hst _) (hpl _); rw [hX.hK] at this; exact this, fun S H σ I Q fn => ?_⟩
  obtain ⟨l, el, nl, xs0, hx0, t0⟩ := I.own hs ho
  refine ⟨.ref l, el, .inl ⟨rfl, xs0, .inl (.inl hx0)⟩, ?_⟩
  refine sa S H σ I _ fun vs S1 H1 I1 a1 x1 => ?_
  obtain ⟨l', el', nl', xs, hx, tx⟩ := I1.own hs ho
  rw [el] at el'
  cases el'
  refine hr B σ S1 H1 l vs xs I1 x1 hx tx Q fun v ys tv ty => ?_
  have I2 := I1.mutate (u := .lst ys) hs ho (put_ow (o' := .lst ds') ho) put_kind el ⟨ys, upd_same, ty⟩
  exact fn v S1 _ I2 ((a1.trans (mut_adv I1 hs ho el)).weak fun h => nomatch h) tv trivial
theorem ev_append (i : Nat) {x : Str} (ha : EV c B e sl true (.st d) sl) (hs : sl[i]? = some s := by rfl) (ho : s.ow = some (.lst ds) := by rfl) (hN : c.N[i]? = some x := by rfl) (hv : Vis c.sc x := by first | exact .inl rfl | exact .inr (.inl rfl) | exact .inr (.inr rfl))
    (h1 : (x == ("__debug__" : Str)) = false := by decide) (h2 : (x == ("__classdict__" : Str)) = false := by decide) (hbase : ∀ env, attributeBase (.Name x p1) "append" env (eval (.Name x p1) env) = eval (.Name x p1) env := by intro _; rfl)
    (hfew : ∀ env, ((backTo p3 (starEach [e] env)).all (fun x => !x.1) && (backToKw p3 (keywordEach [] env)).all (fun x => x.1.isSome) && decide ([e].length + ([] : List Keyword).length + (if ([] : List Keyword).isEmpty then 0 else 1) < 30)) = true := by intro _; rfl)
    (hline : (p2.endLine == p3.line) = true := by rfl) (hst : ∀ env, starEach [e] env = (false, eval e env) :: starEach [] env := by intro _; rfl) (hl : ds.length ≤ 1000000 := by first | omega | (simp only [len_nums, List.length_append, List.length_map, List.length_cons, List.length_nil]; omega)) : EV c B (.Call (.Attribute (.Name x p1) "append" p2) [e] [] p3) sl false (.st .none) (sl.set i (s.put (.lst (ds ++ [d])))) :=
  ev_mut (ks := [.st d]) i PySem.F.plainAttrs_list PySem.F.slot_list_append PySem.F.type_list_append (fun _ _ => mt_append) (av_cons ha av_nil rfl hst) (fun B σ S H l vs xs I hk hx tx Q q => by
    obtain ⟨v, rfl, hv⟩ := one_arg hk
    exact ⟨l, xs, v, rfl, rfl, hx, by rw [tx.len, sizeLine_eq]; omega, q _ _ .non (tx.app (.one hv))⟩) hs ho hN hv h1 h2 hbase hfew hline hst (fun _ => rfl)
/-- x.append(e) -/
theorem go_append (i : Nat) {x : Str} (ha : EV c B e sl true (.st d) sl) (h3 : GO c B rest (sl.set i (s.put (.lst (ds ++ [d])))) R) (hs : sl[i]? = some s := by rfl) (ho : s.ow = some (.lst ds) := by rfl) (hN : c.N[i]? = some x := by rfl) (hv : Vis c.sc x := by first | exact .inl rfl | exact .inr (.inl rfl) | exact .inr (.inr rfl))
    (h1 : (x == ("__debug__" : Str)) = false := by decide) (h2 : (x == ("__classdict__" : Str)) = false := by decide) (hbase : ∀ env, attributeBase (.Name x p1) "append" env (eval (.Name x p1) env) = eval (.Name x p1) env := by intro _; rfl)
    (hfew : ∀ env, ((backTo p3 (starEach [e] env)).all (fun x => !x.1) && (backToKw p3 (keywordEach [] env)).all (fun x => x.1.isSome) && decide ([e].length + ([] : List Keyword).length + (if ([] : List Keyword).isEmpty then 0 else 1) < 30)) = true := by intro _; rfl)
    (hline : (p2.endLine == p3.line) = true := by rfl) (hst : ∀ env, starEach [e] env = (false, eval e env) :: starEach [] env := by intro _; rfl) (hl : ds.length ≤ 1000000 := by first | omega | (simp only [len_nums, List.length_append, List.length_map, List.length_cons, List.length_nil]; omega)) : GO c B (.Expr (.Call (.Attribute (.Name x p1) "append" p2) [e] [] p3) pos :: rest) sl R :=
  go_expr (ev_append i ha hs ho hN hv h1 h2 hbase hfew hline hst hl) h3 (fun _ => rfl)
/-- x[n] = e of a changing list -/
theorem go_setItem (i : Nat) {x : Str} {m : Int} {j : Nat} {tpos : Pos} (ha : EV c B e sl p (.st d) sl1) (hb : EV c B b sl1 true (.st (.int m)) sl1) (hj : ixN ds.length m = some j) (h3 : GO c B rest (sl1.set i (s.put (.lst (ds.set j d)))) R) (hs : sl1[i]? = some s := by rfl) (ho : s.ow = some (.lst ds) := by rfl) (hN : c.N[i]? = some x := by rfl) (hv : Vis c.sc x := by first | exact .inl rfl | exact .inr (.inl rfl) | exact .inr (.inr rfl))
    (h1 : (x == ("__debug__" : Str)) = false := by decide) (h2 : (x == ("__classdict__" : Str)) = false := by decide)
    (hsub : ∀ env v, assign (.Subscript (.Name x p1) b tpos) env v = (do
      let ov ← holding [v] (eval (.Name x p1) env)
      let iv ← holding [v, ov] (eval b env)
      standAt tpos
      holding [v, ov, iv] (setItem ov iv v)
      release [v, ov, iv] []) := by intro _ _; rfl)
    (hsw : ∀ env, swapsWithSole [.Subscript (.Name x p1) b tpos] e pos.line env = pure false := by intro _; rfl) (hw : ∀ env, swappedStores [.Subscript (.Name x p1) b tpos] e env = pure none := by intro _; rfl)
    (ht : ∀ env, (assignEach [.Subscript (.Name x p1) b tpos] env).map (·.2) = [assign (.Subscript (.Name x p1) b tpos) env] := by intro _; rfl) : GO c B (.Assign [.Subscript (.Name x p1) b tpos] e pos :: rest) sl R := by
  obtain ⟨te, ge, se⟩ := ha
  obtain ⟨tb, gb, sb⟩ := hb
  refine go_to (sl1 := sl1.set i (s.put (.lst (ds.set j d)))) ⟨tAsg te (gSub (tVar i) tb rSetL), fun X hX => ps_asg (ge X hX) (pg_sub (pe_var (by rw [hX.hN]; exact hN) (hX.v x hv) h1 h2) (gb X hX) set_list (hsub _)) (hsw _) (hw _) (ht _), fun S H σ I D q => ?_⟩ h3
  refine se S H σ I _ fun v S1 H1 I1 a1 x1 _ => ?_
  obtain ⟨l, el, nl, xs0, hx0, t0⟩ := I1.own hs ho
  refine ⟨.ref l, el, sb S1 H1 σ I1 _ fun w S2 H2 I2 a2 x2 _ => ?_⟩
  obtain ⟨l', el', nl', xs, hx, tx⟩ := I2.own hs ho
  rw [el] at el'
  cases el'
  refine ⟨l, xs, m, j, rfl, tr_int x2, hx, by rw [tx.len]; exact hj, ?_⟩
  have I3 := I2.mutate (u := .lst (xs.set j v)) hs ho (put_ow (o' := .lst (ds.set j d)) ho) put_kind el ⟨_, upd_same, tx.set (Tr.mono a2.s x1) j⟩
  exact q.nx S2 _ σ _ (a1.s.trans a2.s) I3 rfl

/-! ## list operators -/
def rCatQ (K : PySem.W.Frag) : R2 := fun x y H Q => ∃ l b xs zs, x = .ref l ∧ y = .ref b ∧ SqL K H l xs ∧ SqL K H b zs ∧ xs.length + zs.length ≤ sizeLine ∧ ∀ m, H m = none → Q (.ref m) (upd H m (.lst (xs ++ zs)))
theorem op_catQ {X : Cx} : OpR X (binaryOp .Add) (rCatQ X.K) := by
  intro pins s σ H x y v u Q I rx ry h
  obtain ⟨l, b, xs, zs, rfl, rfl, hl, hb, hz, q⟩ := h
  cases rx
  cases ry
  obtain ⟨its, r1, p1, _⟩ := I.list hl
  obtain ⟨its2, r2, p2, _⟩ := I.list hb
  obtain ⟨⟨cls, dd, data, sl⟩, n, ho, hc, hd, hs⟩ := p1
  obtain ⟨⟨cls2, dd2, data2, sl2⟩, n2, ho2, hc2, hd2, hs2⟩ := p2
  simp only at hc hd hs hc2 hd2 hs2
  subst hc hd hs hc2 hd2 hs2
  have e1 := r1.length
  have e2 := r2.length
  refine PySem.concat_meets ⟨_, ho, rfl⟩ ⟨_, ho2, rfl⟩ PySem.noFill_list_add PySem.seq_list_add PySem.F.slot_list_add PySem.F.entry_list_add (PySem.F.args_list_add_2 _ _)
    (PyProof.Rows.list_addW l b its.toArray its2.toArray n n2 none none sl sl2 (by simp only [List.size_toArray]; omega)) ⟨ho, ho2, ?_⟩
  have ea : its.toArray ++ its2.toArray = (its ++ its2).toArray := by simp
  rw [ea]
  exact ⟨.ref _, _, I.lnew (t' := s.toks) (r1.append r2) (by rw [List.length_append]; omega), rfl, q _ I.fresh⟩
theorem ev_cat (ha : EV c B a sl p k1 sl1) (hb : EV c B b sl1 true k2 sl2) (h1 : LsK k1 ds := by first | exact .st | exact .ls | exact .fr) (h2 : LsK k2 ds' := by first | exact .st | exact .ls | exact .fr) (hz : ds.length + ds'.length ≤ 1000000) : EV c B (.BinOp a .Add b pos) sl p (.fr (.lst (ds ++ ds'))) sl2 := by
  have h := ev_bin (pos := pos) (op := .Add) (r := rCatQ c.K) (k := .fr (.lst (ds ++ ds'))) (fun X hX => by rw [← hX.hK]; exact op_catQ) (fun B σ sl S H x y I hx hy Q q => by
    obtain ⟨l, xs, rfl, hl, tx⟩ := h1.rd I hx
    obtain ⟨m, ys, rfl, hm, ty⟩ := h2.rd I hy
    exact ⟨l, m, xs, ys, rfl, rfl, hl, hm, by rw [tx.len, ty.len, sizeLine_eq]; omega, fun z hn => q.fresh I hn (tx.app ty)⟩) ha hb rfl
  rwa [Bool.and_true] at h
/-- [..] * n, the list just made -/
theorem ev_rep {m : Int} (ha : EV c B a sl p (.fr (.lst ds)) sl1) (hb : EV c B b sl1 q (.st (.int m)) sl2) (hm : -(2 ^ 63) ≤ m ∧ m < 2 ^ 63) (hz : ds.length * m.toNat ≤ 1000000) : EV c B (.BinOp a .Mult b pos) sl (p && q) (.fr (.lst (List.replicate m.toNat ds).flatten)) sl2 :=
  ev_bin (pos := pos) (op := .Mult) (r := rRep) (k := .fr (.lst (List.replicate m.toNat ds).flatten)) (fun X hX => op_rep) (fun B σ sl S H x y I hx hy Q q => by
    obtain ⟨l, xs, rfl, hl, tx⟩ := frL hx
    exact ⟨l, m, xs, rfl, tr_int hy, hl, hm.1, hm.2, by rw [tx.len, sizeLine_eq]; omega, fun z hn => q.fresh I hn (Trs.repl _ tx)⟩) ha hb (by simp [Kd.firm])
/-- x + e, x a changing list, e may change others -/
theorem ev_catA (i : Nat) {s : Sl} {ds ds' : List PyData} (ha : EV c B a sl p (.at i) sl1) (hb : EV c B b sl1 q k2 sl2) (hs : sl2[i]? = some s := by rfl) (ho : s.ow = some (.lst ds) := by rfl) (h2 : LsK k2 ds' := by first | exact .st | exact .ls | exact .fr) (hz : ds.length + ds'.length ≤ 1000000) : EV c B (.BinOp a .Add b pos) sl (p && q) (.fr (.lst (ds ++ ds'))) sl2 := by
  obtain ⟨ta, ga, sa⟩ := ha
  obtain ⟨tb, gb, sb⟩ := hb
  refine ⟨tOp (rCatQ c.K) ta tb, fun X hX => pe_op (by rw [← hX.hK]; exact op_catQ) (ga X hX) (gb X hX), fun S H σ I Q fn => ?_⟩
  refine sa S H σ I _ fun x S1 H1 I1 a1 x1 f1 => sb S1 H1 σ I1 _ fun y S2 H2 I2 a2 x2 f2 => ?_
  obtain ⟨l, el, nl, xs, hx, tx⟩ := I2.own hs ho
  have x1' : σ[i]? = some (some x) := x1
  rw [el] at x1'
  cases x1'
  obtain ⟨m, ys, rfl, hm, ty⟩ := h2.rd I2 x2
  exact ⟨l, m, xs, ys, rfl, rfl, .inl (.inl hx), hm, by rw [tx.len, ty.len, sizeLine_eq]; omega, fun z hn => (Mw.fin fn (a1.trans a2) fun h => h).fresh I2 hn (tx.app ty)⟩
end

/-! ## defs -/
structure FnG (P : Program) (w : World) (K : PySem.W.Frag) (mg : Str → Option Value) (base : Heap) (lv : Nat) (f : Addr) (fd : FuncData) (ps : List Str) (sp : Sp) : Prop where
  len : ∀ vs H Q E, sp vs H Q E → vs.length = ps.length
  run : ∀ (A : Around) (outer : List Env) (s : Shared) (H : Hp) (args : Args) (us : List Value) (vs : List V) (Q : VK) (E : XK), Room lv A → A.guards = some [] → Env0 P w K mg base A outer s H → BindsTo s fd args (ps.zip us) → Vals vs us → sp vs H Q E →
    codeAny (model P w) A (.call (.ref f) args) (CR (L2.CX P w) outer P w H s Q E) s
theorem FnG.mono {P : Program} {w : World} {K : PySem.W.Frag} {mg : Str → Option Value} {base : Heap} {j k : Nat} {f : Addr} {fd : FuncData} {ps : List Str} {sp : Sp} (F : FnG P w K mg base j f fd ps sp) (h : j ≤ k) : FnG P w K mg base k f fd ps sp :=
  ⟨F.len, fun A outer s H args us vs Q E hr hg => F.run A outer s H args us vs Q E (hr.mono h) hg⟩
theorem FnG.imp {P : Program} {w : World} {K : PySem.W.Frag} {mg : Str → Option Value} {base : Heap} {k : Nat} {f : Addr} {fd : FuncData} {ps : List Str} {sp sp' : Sp} (F : FnG P w K mg base k f fd ps sp) (h : ∀ vs H Q E, sp' vs H Q E → sp vs H Q E) : FnG P w K mg base k f fd ps sp' :=
  ⟨fun vs H Q E q => F.len vs H Q E (h _ _ _ _ q), fun A outer s H args us vs Q E hr hg he hb hv hs => F.run A outer s H args us vs Q E hr hg he hb hv (h _ _ _ _ hs)⟩
theorem fnG_of {P : Program} {w : World} {K : PySem.W.Frag} {mg : Str → Option Value} {base : Heap} {x qual : Str} {st : Stmt} {f : Addr} {fd : FuncData} {N ps : List Str} {lv : Nat} {sp : Sp} (F : Fun K x qual st f fd) (Sc : FnScope N ps (defScope st)) (len : ∀ vs H Q E, sp vs H Q E → vs.length = ps.length)
    (hbody : ∀ (E : XK) (vs : List V) (H : Hp) (Q : VK), sp vs H Q E → ∃ t, (∀ X, InCx ⟨P, w, K, mg, base, N, defScope st, lv, fun cls d _ H => E cls d H, true, ⟨fd.code, qual ++ ".<locals>.", fun _ => True⟩⟩ X → PSs X (defBody st) t) ∧ t { nx := fun _ H' => Q .non H', rt := Q } (start N vs) H) : FnG P w K mg base (lv + 1) f fd ps sp := by
  obtain ⟨oc, od, kV, doc, pm, an, cdv, ct, osl, rfl, lk, hcd⟩ := F.ex
  refine ⟨len, fun A outer s H args us vs Q E hr hgu e0 hb r hsp => ?_⟩
  have hl := len _ _ _ _ hsp
  have KX : K.In s.heap := e0.mod.kin.keeps fun b o e => (e0.bs b o e).1
  have lim : s.heap.NoLimit := e0.mod.nolimit.keeps fun b o e => (e0.bs b o e).1
  refine codeAny_call_function hr.depth (KX _ _ lk) rfl Sc.co Sc.gen rfl (PySem.W.codeRec_of KX hcd) (hb _ _ _ _ ?_)
  refine wpAny_newFunctionEnv_cells Sc.kind (fun ⟨n, v⟩ hy => ?_) fun env he s1 x => ?_
  · rcases Sc.par n (List.of_mem_zip hy).1 with q | q
    · exact .inl q
    · exact .inr ⟨q, PySem.W.cellsFrom_some _ _ _ (.inl q)⟩
  · subst he
    refine ⟨lim.keeps x.toInCall.keep, codeAny_func ?_⟩
    obtain ⟨t, ht, hq⟩ := hbody E vs H Q hsp
    have I : Inv (cxOf (L2.CX P w) P w K mg base N qual (defScope st) f cdv A outer s H E) [] (start N vs) H s1 := inv_start Sc hr.hd e0 hl r x
    have hX : InCx ⟨P, w, K, mg, base, N, defScope st, lv, fun cls d _ H => E cls d H, true, ⟨cdv, qual ++ ".<locals>.", fun _ => True⟩⟩ (cxOf (L2.CX P w) P w K mg base N qual (defScope st) f cdv A outer s H E) :=
      ⟨rfl, rfl, rfl, rfl, rfl, rfl, rfl, Sc.kind, hgu, hr.deeper _, fun _ h => h, fun _ h => h, fun _ h => h, fun _ h => h, fun _ h => ⟨h, rfl⟩, passes_of rfl, takes_of rfl rfl rfl rfl, fun _ => ⟨rfl, rfl, rfl⟩, rfl, rfl, fun _ _ => trivial⟩
    refine wpAny_mono ((ht _ hX).run [] s1 (start N vs) H _ I hq) (fun fl s' hs => ?_) fun e s' hs => hs
    cases fl with
    | ret u =>
      obtain ⟨v, σ', H', J, rv, q⟩ := hs
      exact ⟨v, H', J.os, J.bare, J.base, J.hok, rv, q⟩
    | next =>
      obtain ⟨σ', H', J, q⟩ := hs
      exact ⟨V.non, H', J.os, J.bare, J.base, J.hok, rfl, q⟩
    | brk =>
      obtain ⟨_, _, _, q⟩ := hs
      exact False.elim q
    | cont =>
      obtain ⟨_, _, _, q⟩ := hs
      exact False.elim q

/-! ### promises by trees -/
/-- how a call ends -/
inductive Out where
  | ret (k : Kd)
  | exn (x : Exn)
/-- from the arguments' slots: how it ends, the slots then -/
abbrev Rel := List Sl → Out → List Sl → Prop
def Prm (K : PySem.W.Frag) (mg : Str → Option Value) (R : Rel) : Sp := fun vs H Q E => ∃ (S : Hp) (ls : List Addr) (cs : List Sl) (u : Out) (cs' : List Sl), R cs u cs' ∧ Stt K ⟨S, H, ls⟩ S H (vs.map some) cs ∧
  match u with
  | .ret k => ∀ v S' H', Stt K ⟨S, H, ls⟩ S' H' (vs.map some) cs' → KdOk K ⟨S, H, ls⟩ (vs.map some) cs' S' H' v k → Q v H'
  | .exn x => ∀ cls dx S' H', Stt K ⟨S, H, ls⟩ S' H' (vs.map some) cs' → ExnOk K mg S' cls dx x → E cls dx H'
/-- what was handed in to be changed is still known -/
def IoIn (cs' sl : List Sl) : Prop := ∀ (i : Nat) (j : Nat) (o : Ow), cs'[i]? = some (.io j o) → ∃ i' : Nat, sl[i']? = some (.io j o)
/-- the same arguments, but for the contents of what is changed -/
inductive Shp : List Sl → List Sl → Prop
  | nil : Shp [] []
  | val {d : PyData} {cs cs' : List Sl} (t : Shp cs cs') : Shp (.val d :: cs) (.val d :: cs')
  | raw {v : V} {cs cs' : List Sl} (t : Shp cs cs') : Shp (.raw v :: cs) (.raw v :: cs')
  | io {j : Nat} {o o' : Ow} {cs cs' : List Sl} (t : Shp cs cs') : Shp (.io j o :: cs) (.io j o' :: cs')
theorem Shp.len {cs cs' : List Sl} (h : Shp cs cs') : cs.length = cs'.length := by induction h <;> simp_all
theorem Shp.at {cs cs' : List Sl} (h : Shp cs cs') : ∀ (i : Nat) (s' : Sl), cs'[i]? = some s' → ∃ s, cs[i]? = some s ∧ ((∃ d, s = .val d ∧ s' = .val d) ∨ (∃ v, s = .raw v ∧ s' = .raw v) ∨ ∃ j o o', s = .io j o ∧ s' = .io j o') := by
  induction h with
  | nil => intro i s' e; simp at e
  | val t ih =>
    intro i s' e
    cases i with
    | zero => simp at e; subst e; exact ⟨_, rfl, .inl ⟨_, rfl, rfl⟩⟩
    | succ i => exact ih i s' (by simpa using e)
  | raw t ih =>
    intro i s' e
    cases i with
    | zero => simp at e; subst e; exact ⟨_, rfl, .inr (.inl ⟨_, rfl, rfl⟩)⟩
    | succ i => exact ih i s' (by simpa using e)
  | io t ih =>
    intro i s' e
    cases i with
    | zero => simp at e; subst e; exact ⟨_, rfl, .inr (.inr ⟨_, _, _, rfl, rfl⟩)⟩
    | succ i => exact ih i s' (by simpa using e)
def pad (cs : List Sl) (n : Nat) : List Sl := cs ++ List.replicate (n - cs.length) .no
section
variable {P : Program} {w : World} {K : PySem.W.Frag} {mg : Str → Option Value} {base : Heap}
/-- the arguments behind a body -/
theorem args_back {S H S' H' : Hp} {ls : List Addr} {σ σ' : L2.St} {cs cs' sl : List Sl} (I0 : Stt K ⟨S, H, ls⟩ S H σ cs) (sh : Shp cs cs') (I : Stt K ⟨S, H, ls⟩ S' H' σ' sl) (io : IoIn cs' sl) : Stt K ⟨S, H, ls⟩ S' H' σ cs' where
  s0 := I.s0
  sh := I.sh
  new := I.new
  keep := I.keep
  dom := I.dom
  lsd := I.lsd
  len := I0.len.trans sh.len
  slot := fun i s' e => by
    obtain ⟨s, es, h⟩ := sh.at i s' e
    obtain ⟨x, hx, ok⟩ := I0.slot i s es
    refine ⟨x, hx, ?_⟩
    rcases h with ⟨d, rfl, rfl⟩ | ⟨v, rfl, rfl⟩ | ⟨j, o, o', rfl, rfl⟩
    · obtain ⟨v, e1, t⟩ := ok
      exact ⟨v, e1, t.mono I.s0⟩
    · exact ok
    · obtain ⟨l, e1, n, ow, hj⟩ := ok
      obtain ⟨i', hi'⟩ := io i j o' e
      obtain ⟨y, hy, l', e2, n2, ow2, hj2⟩ := I.slot i' _ hi'
      have hj' : ls[j]? = some l := hj
      have hj2' : ls[j]? = some l' := hj2
      rw [hj'] at hj2'
      cases hj2'
      exact ⟨l, e1, n2, ow2, hj⟩
  dis := fun i j a y1 y2 => by
    have go : ∀ {m : Nat}, FpAt σ cs' m a → FpAt σ cs m a := fun {m} y => by
      obtain ⟨s, x, h1, h2, h3⟩ := y
      obtain ⟨s3, e3, h⟩ := sh.at m s h1
      rcases h with ⟨d, rfl, rfl⟩ | ⟨v, rfl, rfl⟩ | ⟨j, o, o', rfl, rfl⟩
      · exact absurd h3 fpS_val
      · exact absurd h3 fpS_raw
      · exact ⟨_, x, e3, h2, fpS_io.mpr (fpS_io.mp h3)⟩
    exact I0.dis i j a (go y1) (go y2)
  tabs := I.tabs
  tbk := I.tbk
  snt := I.snt
  sm := I.sm
theorem pad_get {cs : List Sl} {n i : Nat} {s : Sl} (h : (pad cs n)[i]? = some s) : cs[i]? = some s ∨ s = .no := by
  unfold pad at h
  by_cases hi : i < cs.length
  · rw [List.getElem?_append_left hi] at h
    exact .inl h
  · rw [List.getElem?_append_right (by omega), List.getElem?_replicate] at h
    split at h
    · cases h; exact .inr rfl
    · cases h
theorem start_stt {S H : Hp} {ls : List Addr} {vs : List V} {cs : List Sl} {N : List Str} (hN : vs.length ≤ N.length) (I : Stt K ⟨S, H, ls⟩ S H (vs.map some) cs) : Stt K ⟨S, H, ls⟩ S H (start N vs) (pad cs N.length) := by
  have hl : vs.length = cs.length := by have := I.len; rwa [List.length_map] at this
  have get : ∀ {i : Nat} {x : Option V}, (vs.map some)[i]? = some x → (start N vs)[i]? = some x := fun {i x} e => by
    unfold L2.start
    rw [List.getElem?_append_left (List.getElem?_eq_some_iff.mp e).1]
    exact e
  refine ⟨I.s0, I.sh, I.new, I.keep, I.dom, I.lsd, ?_, fun i s e => ?_, fun i j a y1 y2 => ?_, I.tabs, I.tbk, I.snt, I.sm⟩
  · unfold L2.start pad
    simp only [List.length_append, List.length_map, List.length_replicate]
    omega
  · rcases pad_get e with e1 | rfl
    · obtain ⟨x, hx, ok⟩ := I.slot i s e1
      exact ⟨x, get hx, ok⟩
    · have hi : i < (start N vs).length := by
        have := (List.getElem?_eq_some_iff.mp e).1
        unfold pad at this
        unfold L2.start
        simp only [List.length_append, List.length_map, List.length_replicate] at this ⊢
        omega
      exact ⟨_, List.getElem?_eq_getElem hi, trivial⟩
  · have go : ∀ {m : Nat}, FpAt (start N vs) (pad cs N.length) m a → FpAt (vs.map some) cs m a := fun {m} y => by
      obtain ⟨s, x, h1, h2, h3⟩ := y
      rcases pad_get h1 with e1 | rfl
      · obtain ⟨x', hx', _⟩ := I.slot m s e1
        have z := get hx'
        rw [h2] at z
        cases z
        exact ⟨s, x, e1, hx', h3⟩
      · exact absurd h3 fpS_no
    exact I.dis i j a (go y1) (go y2)
/-- what a body must do for its promise -/
abbrev toRtX (u : Out) (cs' : List Sl) : Rt := { nx := fun sl => u = .ret (.st .none) ∧ IoIn cs' sl, rt := fun k' sl => u = .ret k' ∧ IoIn cs' sl, ex := fun x sl => u = .exn x ∧ IoIn cs' sl }
abbrev toRt (k : Kd) (cs' : List Sl) : Rt := { nx := fun sl => k = .st .none ∧ IoIn cs' sl, rt := fun k' sl => k' = k ∧ IoIn cs' sl }
def Out.ok : Out → Prop
  | .ret k => k.firm = true ∧ ∀ i, k ≠ .at i
  | .exn _ => True
/-- nothing that is new behind a body is of an argument -/
theorem new_apart {S H S' H' : Hp} {ls : List Addr} {σ σ' : L2.St} {cs cs' sl : List Sl} (sh : Shp cs cs') (J : Stt K ⟨S, H, ls⟩ S' H' σ cs') (I' : Stt K ⟨S, H, ls⟩ S' H' σ' sl) (io : IoIn cs' sl) {l : Addr} (na : ¬ OwnAt σ' sl l) : ¬ OwnAt σ cs' l := fun ⟨i, s2, x, e1, e2, w2⟩ => by
  obtain ⟨s3, e3, h3⟩ := sh.at i s2 e1
  rcases h3 with ⟨d, rfl, rfl⟩ | ⟨u, rfl, rfl⟩ | ⟨j, o3, o4, rfl, rfl⟩
  · exact fpS_val w2
  · exact fpS_raw w2
  · obtain ⟨y, hy, l2, e4, _, _, hj⟩ := J.slot i _ e1
    rw [e2] at hy
    cases hy
    have w2 := fpS_io.mp w2
    rw [e4] at w2
    cases w2
    obtain ⟨i', hi'⟩ := io i j o4 e1
    obtain ⟨y, hy, l3, e5, _, _, hj3⟩ := I'.slot i' _ hi'
    have a1 : ls[j]? = some l := hj
    have a2 : ls[j]? = some l3 := hj3
    rw [a1] at a2
    cases a2
    exact na ⟨i', _, y, hi', hy, fpS_io.mpr e5⟩
theorem prm_of {x qual : Str} {st : Stmt} {f : Addr} {fd : FuncData} {N ps : List Str} {lv : Nat} {R : Rel} (F : Fun K x qual st f fd) (Sc : FnScope N ps (defScope st)) (hlen : ∀ cs u cs', R cs u cs' → cs.length = ps.length ∧ Shp cs cs')
    (hk : ∀ cs u cs', R cs u cs' → u.ok)
    (body : ∀ (E : XK) (B : Bs) (cs : List Sl) (u : Out) (cs' : List Sl), R cs u cs' → GO ⟨P, w, K, mg, base, N, defScope st, lv, fun cls d _ H => E cls d H, true, ⟨fd.code, qual ++ ".<locals>.", fun _ => True⟩⟩ B (defBody st) (pad cs N.length) (toRtX u cs')) : FnG P w K mg base (lv + 1) f fd ps (Prm K mg R) := by
  have hps : ps.length ≤ N.length := by have := congrArg List.length Sc.pre; rw [List.length_take] at this; omega
  refine fnG_of F Sc (fun vs H Q E h => ?_) fun E vs H Q h => ?_
  · obtain ⟨S, ls, cs, k, cs', hR, I, _⟩ := h
    have := I.len
    rw [List.length_map] at this
    rw [this]
    exact (hlen _ _ _ hR).1
  · obtain ⟨S, ls, cs, u, cs', hR, I, q⟩ := h
    obtain ⟨h1, shp⟩ := hlen _ _ _ hR
    have hvl : vs.length = cs.length := by have := I.len; rwa [List.length_map] at this
    obtain ⟨t, ht, sem⟩ := body E ⟨S, H, ls⟩ cs u cs' hR
    refine ⟨t, ht, sem S H (start N vs) (start_stt (by omega) I) _ ⟨fun S' H' σ' sl' s I' ⟨hk0, io⟩ => ?_, fun S' H' σ' sl' v k' s I' x ⟨hk0, io⟩ => ?_, fun S' H' σ' sl' s I' z => False.elim z, fun S' H' σ' sl' s I' z => False.elim z, fun S' H' σ' sl' cls dx x s I' z ⟨hk0, io⟩ => ?_⟩⟩
    · subst hk0
      exact q .non S' H' (args_back I shp I' io) .non
    · subst hk0
      have J := args_back I shp I' io
      refine q v S' H' J ?_
      obtain ⟨hf, hat⟩ := hk _ _ _ hR
      cases k' with
      | st d => exact x
      | ls ds => cases hf
      | nw ds => cases hf
      | ft ds =>
        obtain ⟨fp, t, nd, hG⟩ := x
        exact ⟨fp, t, nd, fun a m => ⟨(hG a m).1, (hG a m).2.1, new_apart shp J I' io (hG a m).2.2⟩⟩
      | raw u => exact x
      | «at» i => exact absurd rfl (hat i)
      | fr o =>
        obtain ⟨l, e, n, n0, ow, na⟩ := x
        exact ⟨l, e, n, n0, ow, new_apart shp J I' io na⟩
    · subst hk0
      exact q cls dx S' H' (args_back I shp I' io) z
end
end Mw

/-! MwG: calls of defs; the end of a law. -/
namespace Mw
open PySem PySem.Spec L2
variable [Tb]

structure DefOk (P : Program) (w : World) (K : PySem.W.Frag) (mg : Str → Option Value) (base : Heap) (x : Str) (st : Stmt) (ps : List Str) (lv : Nat) (sp : Sp) : Prop where
  ex : ∃ f fd, mg x = some (.ref f) ∧ Fun K x x st f fd ∧ Binds K fd ps [] ∧ FnG P w K mg base lv f fd ps sp
/-- the same, however it binds -/
structure DefK (P : Program) (w : World) (K : PySem.W.Frag) (mg : Str → Option Value) (base : Heap) (x : Str) (st : Stmt) (ps : List Str) (lv : Nat) (sp : Sp) : Prop where
  ex : ∃ f fd, mg x = some (.ref f) ∧ Fun K x x st f fd ∧ FnG P w K mg base lv f fd ps sp
/-- called by position, the last parameters have the defaults dvs -/
structure DefD (P : Program) (w : World) (K : PySem.W.Frag) (mg : Str → Option Value) (base : Heap) (x : Str) (st : Stmt) (ps : List Str) (lv : Nat) (sp : Sp) (dvs : List V) : Prop where
  ex : ∃ f fd, mg x = some (.ref f) ∧ Fun K x x st f fd ∧ (∃ ds, Vals dvs ds ∧ Binds K fd ps ds) ∧ FnG P w K mg base lv f fd ps sp
theorem DefOk.toK {P : Program} {w : World} {K : PySem.W.Frag} {mg : Str → Option Value} {base : Heap} {x : Str} {st : Stmt} {ps : List Str} {lv : Nat} {sp : Sp} (h : DefOk P w K mg base x st ps lv sp) : DefK P w K mg base x st ps lv sp := by
  obtain ⟨f, fd, a, b, c, d⟩ := h.ex
  exact ⟨f, fd, a, b, d⟩
theorem DefD.toK {P : Program} {w : World} {K : PySem.W.Frag} {mg : Str → Option Value} {base : Heap} {x : Str} {st : Stmt} {ps : List Str} {lv : Nat} {sp : Sp} {dvs : List V} (h : DefD P w K mg base x st ps lv sp dvs) : DefK P w K mg base x st ps lv sp := by
  obtain ⟨f, fd, a, b, c, d⟩ := h.ex
  exact ⟨f, fd, a, b, d⟩
abbrev CxD.DefK (c : CxD) (x : Str) (st : Stmt) (ps : List Str) (lv : Nat) (sp : Sp) : Prop := Mw.DefK c.P c.w c.K c.mg c.base x st ps lv sp
abbrev CxD.Def (c : CxD) (x : Str) (st : Stmt) (ps : List Str) (lv : Nat) (sp : Sp) : Prop := DefOk c.P c.w c.K c.mg c.base x st ps lv sp

section
variable {X : Cx} {lv : Nat} {f : Addr} {fd : FuncData} {ps ks : List Str} {sp : Sp} {W : WX} {x : Str} {p pos : Pos} {e : Expr} {es : List Expr} {kws : List Keyword} {t tk : TA}
theorem runG {pins : List (Addr × Obj)} {σ : L2.St} {H : Hp} {s : Shared} {Q : VK} {args : Args} {us : List Value} {vs : List V} (F : FnG X.prog X.w X.K X.mg X.base lv f fd ps sp) (hr : Room lv X.A) (hgu : X.A.guards = some []) (tk : Takes X W) (I : Inv X pins σ H s)
    (hb : BindsTo s fd args (ps.zip us)) (r : Vals vs us) (h : sp vs H Q fun cls d H' => W cls d σ H') : codeAny (model X.prog X.w) X.A (.call (.ref f) args) (fun r s' => match r with | .ok (.ret u) => EP X pins σ Q u s' | .ok _ => False | .error e => X.xe e s') s := by
  refine codeAny_mono (F.run X.A X.stack s H args us vs Q _ hr hgu I.env0 hb r h) fun r s' hq => ?_
  cases r with
  | error e => exact tk e s' (XE.of_call I (fun cls d H' z => z) hq)
  | ok fl =>
    cases fl with
    | ret u => exact I.after hq
    | next => exact False.elim hq
    | brk => exact False.elim hq
    | cont => exact False.elim hq
theorem wp_runG {pins : List (Addr × Obj)} {σ : L2.St} {H : Hp} {s : Shared} {Q : VK} {us0 : List Value} {kw : List (Str × Value)} {us : List Value} {vs : List V} (F : FnG X.prog X.w X.K X.mg X.base lv f fd ps sp) (hr : Room lv X.A) (hgu : X.A.guards = some []) (tk : Takes X W) (I : Inv X pins σ H s)
    (hb : BindsTo s fd ⟨us0, kw⟩ (ps.zip us)) (r : Vals vs us) (h : sp vs H Q fun cls d H' => W cls d σ H') : wpAny (model X.prog X.w) X.A (call (.ref f) us0 kw) (EP X pins σ Q) X.xe s := by
  refine wpAny_call (codeAny_mono (runG F hr hgu tk I hb r h) fun r s' hq => ?_)
  cases r with
  | error e => exact hq
  | ok fl =>
    cases fl with
    | ret u => exact hq
    | next => exact False.elim hq
    | brk => exact False.elim hq
    | cont => exact False.elim hq
/-- f(e, ..) -/
theorem pe_callG (F : FnG X.prog X.w X.K X.mg X.base lv f fd ps sp) (hr : Room lv X.A) (hgu : X.A.guards = some []) (tk : Takes X W) (hg : Gl X x) (hm : X.mg x = some (.ref f)) (hk : PySem.W.keepIn X.K (.ref f) = true) (hb : Binds X.K fd ps [])
    (ha : PA X (e :: es) t) (hdb : (x == ("__debug__" : Str)) = false) (he : starEach (e :: es) X.env = (false, eval e X.env) :: starEach es X.env) (hpl : (backTo pos (starEach es X.env)).any (·.1) = false) :
    PE X (.Call (.Name x p) (e :: es) [] pos) (fun σ H Q => t σ H fun vs H1 => sp vs H1 Q fun cls d H' => W cls d σ H') := by
  refine ⟨fun pins s σ H Q I h => ?_⟩
  refine wpAny_Call_Name_kw (ld_glob I hg hm ?_ hdb)
  refine PySem.W.callWith_K (h₀ := X.base) I.ok.mod.kin hk (thn (ha.run pos pins s σ H _ I h) fun us s1 ⟨vs, H1, I1, r, q⟩ => ⟨I1.kIn, ?_⟩) he hpl
  have hl : (us ++ []).length = ps.length := by rw [List.append_nil, ← r.length]; exact F.len _ _ _ _ q
  have hb' := hb s1 us I1.kIn hl
  rw [List.append_nil] at hb'
  exact wp_runG F hr hgu tk I1 hb' r q
/-- f(e, ..), the last parameters by their defaults -/
theorem pe_callGD {dvs : List V} {ds : List Value} (F : FnG X.prog X.w X.K X.mg X.base lv f fd ps sp) (hr : Room lv X.A) (hgu : X.A.guards = some []) (tk : Takes X W) (hg : Gl X x) (hm : X.mg x = some (.ref f)) (hk : PySem.W.keepIn X.K (.ref f) = true) (hb : Binds X.K fd ps ds) (hds : Vals dvs ds)
    (ha : PA X (e :: es) t) (hdb : (x == ("__debug__" : Str)) = false) (he : starEach (e :: es) X.env = (false, eval e X.env) :: starEach es X.env) (hpl : (backTo pos (starEach es X.env)).any (·.1) = false) :
    PE X (.Call (.Name x p) (e :: es) [] pos) (fun σ H Q => t σ H fun vs H1 => sp (vs ++ dvs) H1 Q fun cls d H' => W cls d σ H') := by
  refine ⟨fun pins s σ H Q I h => ?_⟩
  refine wpAny_Call_Name_kw (ld_glob I hg hm ?_ hdb)
  refine PySem.W.callWith_K (h₀ := X.base) I.ok.mod.kin hk (thn (ha.run pos pins s σ H _ I h) fun us s1 ⟨vs, H1, I1, r, q⟩ => ⟨I1.kIn, ?_⟩) he hpl
  have r2 := r.append hds
  have hl : (us ++ ds).length = ps.length := by rw [← r2.length]; exact F.len _ _ _ _ q
  have hb' := hb s1 us I1.kIn hl
  exact wp_runG F hr hgu tk I1 hb' r2 q
/-- f() -/
theorem pe_callG0 (F : FnG X.prog X.w X.K X.mg X.base lv f fd ps sp) (hr : Room lv X.A) (hgu : X.A.guards = some []) (tk : Takes X W) (hg : Gl X x) (hm : X.mg x = some (.ref f)) (hk : PySem.W.keepIn X.K (.ref f) = true) (hb : Binds X.K fd ps [])
    (hdb : (x == ("__debug__" : Str)) = false) : PE X (.Call (.Name x p) [] [] pos) (fun σ H Q => sp [] H Q fun cls d H' => W cls d σ H') := by
  refine ⟨fun pins s σ H Q I h => ?_⟩
  refine wpAny_Call_Name_kw (ld_glob I hg hm ?_ hdb)
  refine PySem.W.callWith_K0 I.kIn hk ?_
  have hl : ([] ++ [] : List Value).length = ps.length := by show ([] : List V).length = _; exact F.len _ _ _ _ h
  have hb' := hb s [] I.kIn hl
  exact wp_runG F hr hgu tk I hb' .nil h
/-- the parameters' values out of the written arguments: the places, one a parameter -/
def pick {α : Type} (l : List α) (ix : List Nat) : List α := ix.filterMap fun i => l[i]?
theorem Vals.pick {vs : List V} {us : List Value} (r : Vals vs us) : ∀ ix : List Nat, Vals (Mw.pick vs ix) (Mw.pick us ix)
  | [] => .nil
  | i :: ix => by
    have ih := Vals.pick r ix
    unfold Mw.pick at ih ⊢
    cases e : vs[i]? with
    | none =>
      rw [List.filterMap_cons_none e, List.filterMap_cons_none (r.none_of e)]
      exact ih
    | some v =>
      obtain ⟨u, hu, rv⟩ := r.get e
      rw [List.filterMap_cons_some e, List.filterMap_cons_some hu]
      exact .cons rv ih
/-- how a call with n positional arguments and the keywords ks binds -/
def KwB (K : PySem.W.Frag) (fd : FuncData) (ps ks : List Str) (n : Nat) (ix : List Nat) : Prop := ∀ (s : Shared) (us ws : List Value), K.In s.heap → us.length = n → ws.length = ks.length → BindsTo s fd ⟨us, ks.zip ws⟩ (ps.zip (pick (us ++ ws) ix))
/-- f(k = e, ..) -/
theorem pe_callGK0 {ix : List Nat} (F : FnG X.prog X.w X.K X.mg X.base lv f fd ps sp) (hr : Room lv X.A) (hgu : X.A.guards = some []) (tkk : Takes X W) (hg : Gl X x) (hm : X.mg x = some (.ref f)) (hk : PySem.W.keepIn X.K (.ref f) = true) (hb : KwB X.K fd ps ks 0 ix)
    (hkw : PK X kws tk) (hln : kws.length = ks.length) (hall : (backToKw pos (keywordEach kws X.env)).all (·.1.isSome) = true) (hks : (backToKw pos (keywordEach kws X.env)).filterMap (·.1) = ks) (hdb : (x == ("__debug__" : Str)) = false)
    (hpl : ((backTo pos (starEach [] X.env)).any (·.1) || (backToKw pos (keywordEach kws X.env)).any (·.1.isNone)) = false) :
    PE X (.Call (.Name x p) [] kws pos) (fun σ H Q => tk σ H fun vs H1 => vs.length = kws.length ∧ sp (pick vs ix) H1 Q fun cls d H' => W cls d σ H') := by
  refine ⟨fun pins s σ H Q I h => ?_⟩
  refine wpAny_Call_Name_kw (ld_glob I hg hm ?_ hdb)
  refine PySem.W.callWith_KW0 (h₀ := X.base) I.ok.mod.kin hk hall (thn (hkw.run pos pins s σ H _ I h) fun ws s1 ⟨vs, H1, I1, r, hl, q⟩ => ⟨I1.kIn, ?_⟩) hpl
  rw [hks]
  have hb' := hb s1 [] ws I1.kIn rfl (by rw [← r.length, hl, hln])
  exact wp_runG F hr hgu tkk I1 hb' (by simpa using Vals.pick r ix) q
/-- f(e, .., k = e, ..) -/
theorem pe_callGK {ix : List Nat} {n : Nat} (F : FnG X.prog X.w X.K X.mg X.base lv f fd ps sp) (hr : Room lv X.A) (hgu : X.A.guards = some []) (tkk : Takes X W) (hg : Gl X x) (hm : X.mg x = some (.ref f)) (hk : PySem.W.keepIn X.K (.ref f) = true) (hb : KwB X.K fd ps ks n ix)
    (ha : PA X (e :: es) t) (hkw : PK X kws tk) (hln : kws.length = ks.length) (hn : (e :: es).length = n) (hall : (backToKw pos (keywordEach kws X.env)).all (·.1.isSome) = true) (hks : (backToKw pos (keywordEach kws X.env)).filterMap (·.1) = ks) (hdb : (x == ("__debug__" : Str)) = false)
    (he : starEach (e :: es) X.env = (false, eval e X.env) :: starEach es X.env) (hpl : ((backTo pos (starEach (e :: es) X.env)).any (·.1) || (backToKw pos (keywordEach kws X.env)).any (·.1.isNone)) = false) :
    PE X (.Call (.Name x p) (e :: es) kws pos) (fun σ H Q => t σ H fun vs H1 => vs.length = (e :: es).length ∧ tk σ H1 fun ws H2 => ws.length = kws.length ∧ sp (pick (vs ++ ws) ix) H2 Q fun cls d H' => W cls d σ H') := by
  refine ⟨fun pins s σ H Q I h => ?_⟩
  refine wpAny_Call_Name_kw (ld_glob I hg hm ?_ hdb)
  refine PySem.W.callWith_KW (h₀ := X.base) I.ok.mod.kin hk hall (thn (ha.run pos pins s σ H _ I h) fun us s0 ⟨vs, H0, I0, r0, hl0, q0⟩ => thn (hkw.run pos pins s0 σ H0 _ I0 q0) fun ws s1 ⟨zs, H1, I1, r, hl, q⟩ => ⟨I1.kIn, ?_⟩) hpl he
  rw [hks]
  have hb' := hb s1 us ws I1.kIn (by rw [← r0.length, hl0, hn]) (by rw [← r.length, hl, hln])
  exact wp_runG F hr hgu tkk I1 hb' (Vals.pick (r0.append r) ix) q
end

section
variable {c : CxD} {B : Bs} {e a b : Expr} {es : List Expr} {sl sl1 sl2 sl3 : List Sl} {p q : Bool} {k k1 k2 : Kd} {ks ks' : List Kd} {pos p1 p2 p3 : Pos} {d : PyData} {ds ds' : List PyData} {cs cs' : List Sl} {R : Rel}
/-- arguments as the callee has them: nothing is changed -/
inductive ArgP : List Kd → List Sl → Prop
  | nil : ArgP [] []
  | st {d : PyData} {ks : List Kd} {cs : List Sl} (t : ArgP ks cs) : ArgP (.st d :: ks) (.val d :: cs)
  | raw {v : V} {ks : List Kd} {cs : List Sl} (t : ArgP ks cs) : ArgP (.raw v :: ks) (.raw v :: cs)
theorem ArgP.slot {K : PySem.W.Frag} {S H : Hp} {σ : L2.St} {vs : List V} (h : ArgP ks cs) (x : KdsOk K B σ sl S H vs ks) : vs.length = cs.length ∧ ∀ (i : Nat) (s : Sl), cs[i]? = some s → s.ow = none ∧ ∃ v, vs[i]? = some v ∧ ((∃ d, s = .val d ∧ Tr K S v d) ∨ s = .raw v) := by
  induction h generalizing vs with
  | nil =>
    cases x
    exact ⟨rfl, fun i s e => by simp at e⟩
  | st t ih =>
    cases x with
    | cons h1 h2 =>
      obtain ⟨e1, e2⟩ := ih h2
      refine ⟨by rw [List.length_cons, List.length_cons, e1], fun i s e => ?_⟩
      cases i with
      | zero => simp at e; subst e; exact ⟨rfl, _, rfl, .inl ⟨_, rfl, h1⟩⟩
      | succ i => exact e2 i s (by simpa using e)
  | raw t ih =>
    cases x with
    | cons h1 h2 =>
      obtain ⟨e1, e2⟩ := ih h2
      refine ⟨by rw [List.length_cons, List.length_cons, e1], fun i s e => ?_⟩
      cases i with
      | zero => simp at e; subst e; exact ⟨rfl, _, rfl, .inr (by rw [show _ = _ from h1])⟩
      | succ i => exact e2 i s (by simpa using e)
theorem ArgP.stt {K : PySem.W.Frag} {S H : Hp} {σ : L2.St} {vs : List V} (h : ArgP ks cs) (I : Stt K B S H σ sl) (x : KdsOk K B σ sl S H vs ks) : Stt K ⟨S, H, []⟩ S H (vs.map some) cs := by
  obtain ⟨e1, e2⟩ := h.slot x
  refine ⟨.refl _, I.sh, fun a o h1 h2 => (by have h3 : S a = none := h2; rw [h1] at h3; cases h3), fun a o e _ _ => e, fun a o e => ⟨o, e⟩, fun l h => absurd h (by simp), by rw [List.length_map]; exact e1, fun i s e => ?_, fun i j a y1 y2 => ?_, I.tabs, (fun a ps e => ⟨ps, e⟩), I.snt, I.sm0⟩
  · obtain ⟨_, v, hv, h⟩ := e2 i s e
    refine ⟨some v, by rw [List.getElem?_map, hv]; rfl, ?_⟩
    rcases h with ⟨d, rfl, t⟩ | rfl
    · exact ⟨v, rfl, t⟩
    · rfl
  · obtain ⟨s, x, a1, a2, a3⟩ := y1
    obtain ⟨_, v, hv, h⟩ := e2 i s a1
    rcases h with ⟨d, rfl, t⟩ | rfl
    · exact absurd a3 fpS_val
    · exact absurd a3 fpS_raw
theorem kd_back {K : PySem.W.Frag} {S H S' H' : Hp} {σ σ' : L2.St} {v : V} {ls : List Addr} (I : Stt K B S H σ sl) (hk : k.firm = true ∧ ∀ i, k ≠ .at i) (own : ∀ a, OwnAt σ sl1 a → OwnAt σ sl a) (x : KdOk K ⟨S, H, ls⟩ σ' cs S' H' v k) : KdOk K B σ sl1 S' H' v k ∧ Frs H v k := by
  cases k with
  | st d => exact ⟨x, trivial⟩
  | ls ds => cases hk.1
  | nw ds => cases hk.1
  | ft ds =>
    obtain ⟨fp, t, nd, hG⟩ := x
    refine ⟨⟨fp, t, nd, fun l m => ?_⟩, trivial⟩
    obtain ⟨n, n0, _⟩ := hG l m
    have n0' : H l = none := n0
    obtain ⟨_, h0, na⟩ := I.notIn n0'
    exact ⟨n, h0, fun z => na (own l z)⟩
  | raw u => exact ⟨x, trivial⟩
  | «at» i => exact absurd rfl (hk.2 i)
  | fr o =>
    obtain ⟨l, e, n, n0, ow, _⟩ := x
    have n0' : H l = none := n0
    obtain ⟨_, h0, na⟩ := I.notIn n0'
    exact ⟨⟨l, e, n, h0, ow, fun z => na (own l z)⟩, fun l' e' => by rw [e] at e'; cases e'; exact n0'⟩
/-- the callee behind: nothing that stood is changed -/
theorem back0 {K : PySem.W.Frag} {S H S' H' : Hp} {σ σ' : L2.St} (I : Stt K B S H σ sl) (J : Stt K ⟨S, H, []⟩ S' H' σ' cs) : Stt K B S' H' σ sl ∧ Adv σ sl S H sl S' H' true := by
  have h2 : Sam H H' := ⟨fun a o e ht => J.keep a o e (by simp) ht, J.tbk⟩
  exact ⟨I.growS J.s0 h2 J.sh J.new J.tabs J.snt, J.s0, J.new, fun a o e => h2.dom e, fun a o e ht _ => h2.st _ _ e ht, fun _ => h2, fun _ h => h⟩
/-- f(e, ..): nothing is changed -/
theorem ev_call {x : Str} {st : Stmt} {ps : List Str} {lv : Nat} (F : c.Def x st ps lv (Prm c.K c.mg R)) (ha : AV c B (e :: es) sl p ks sl1) (hcs : ArgP ks cs) (hR : R cs (.ret k) cs) (hk : k.firm = true ∧ ∀ i, k ≠ .at i) (hlv : lv ≤ c.lv := by exact Nat.le_of_ble_eq_true rfl) (hg : c.sc.names.lookup x = some .globalImplicit := by rfl)
    (hdb : (x == ("__debug__" : Str)) = false := by decide) (he : ∀ env, starEach (e :: es) env = (false, eval e env) :: starEach es env := by intro env; rfl) (hpl : ∀ env, (backTo pos (starEach es env)).any (·.1) = false := by intro env; rfl) : EV c B (.Call (.Name x p1) (e :: es) [] pos) sl p k sl1 := by
  obtain ⟨f, fd, hm, hF, hb, G⟩ := F.ex
  obtain ⟨t, ht, hs⟩ := ha
  refine ⟨fun σ H Q => t σ H fun vs H1 => Prm c.K c.mg R vs H1 Q fun cls d H' => c.W cls d σ H', fun X hX => pe_callG (by rw [hX.hP, hX.hw, hX.hK, hX.hm, hX.hb]; exact G) (hX.rm.mono hlv) hX.gu hX.tk (hX.g x hg) (by rw [hX.hm]; exact hm) (by rw [hX.hK]; exact hF.kp) (by rw [hX.hK]; exact hb) (ht X hX) hdb (he _) (hpl _), fun S H σ I Q fn => ?_⟩
  refine hs S H σ I _ fun vs S1 H1 I1 a1 x1 => ⟨S1, [], cs, .ret k, cs, hR, hcs.stt I1 x1, fun v S' H' J hv => ?_⟩
  obtain ⟨I2, a2⟩ := back0 I1 J
  obtain ⟨kd, fr⟩ := kd_back I1 hk (fun _ h => h) hv
  exact fn v S' H' I2 ((a1.trans a2).weak fun h => by rw [h]; rfl) kd (fr.back a1)

/-! ### one argument is changed -/
inductive ArgC (sl : List Sl) (i : Nat) (o : Ow) : List Kd → List Sl → Prop
  | st {d : PyData} {ks : List Kd} {cs : List Sl} (t : ArgC sl i o ks cs) : ArgC sl i o (.st d :: ks) (.val d :: cs)
  | raw {v : V} {ks : List Kd} {cs : List Sl} (t : ArgC sl i o ks cs) : ArgC sl i o (.raw v :: ks) (.raw v :: cs)
  | here {ks : List Kd} {cs : List Sl} (t : ArgP ks cs) : ArgC sl i o (.at i :: ks) (.io 0 o :: cs)
theorem ArgC.slot {K : PySem.W.Frag} {S H : Hp} {σ : L2.St} {vs : List V} {i : Nat} {o : Ow} (h : ArgC sl i o ks cs) (x : KdsOk K B σ sl S H vs ks) : vs.length = cs.length ∧ (∃ m v, cs[m]? = some (.io 0 o) ∧ vs[m]? = some v ∧ σ[i]? = some (some v) ∧ ∀ (n : Nat) (s : Sl), cs[n]? = some s → n ≠ m → s.ow = none ∧ ∃ v, vs[n]? = some v ∧ ((∃ d, s = .val d ∧ Tr K S v d) ∨ s = .raw v)) := by
  induction h generalizing vs with
  | here t =>
    cases x with
    | cons h1 h2 =>
      obtain ⟨e1, e2⟩ := t.slot h2
      refine ⟨by rw [List.length_cons, List.length_cons, e1], 0, _, rfl, rfl, h1, fun n s e hn => ?_⟩
      cases n with
      | zero => exact absurd rfl hn
      | succ n => exact e2 n s (by simpa using e)
  | st t ih =>
    cases x with
    | cons h1 h2 =>
      obtain ⟨e1, m, v, e2, e3, e4, e5⟩ := ih h2
      refine ⟨by rw [List.length_cons, List.length_cons, e1], m + 1, v, by simpa using e2, by simpa using e3, e4, fun n s e hn => ?_⟩
      cases n with
      | zero => simp at e; subst e; exact ⟨rfl, _, rfl, .inl ⟨_, rfl, h1⟩⟩
      | succ n => exact e5 n s (by simpa using e) fun z => hn (by rw [z])
  | raw t ih =>
    cases x with
    | cons h1 h2 =>
      obtain ⟨e1, m, v, e2, e3, e4, e5⟩ := ih h2
      refine ⟨by rw [List.length_cons, List.length_cons, e1], m + 1, v, by simpa using e2, by simpa using e3, e4, fun n s e hn => ?_⟩
      cases n with
      | zero => simp at e; subst e; exact ⟨rfl, _, rfl, .inr (by rw [show _ = _ from h1])⟩
      | succ n => exact e5 n s (by simpa using e) fun z => hn (by rw [z])
theorem ev_at (i : Nat) {x : Str} {s : Sl} {o : Ow} (hd : sl[i]? = some s := by rfl) (ho : s.ow = some o := by rfl) (hN : c.N[i]? = some x := by rfl) (hv : Vis c.sc x := by first | exact .inl rfl | exact .inr (.inl rfl) | exact .inr (.inr rfl))
    (h1 : (x == ("__debug__" : Str)) = false := by decide) (h2 : (x == ("__classdict__" : Str)) = false := by decide) : EV c B (.Name x pos) sl true (.at i) sl :=
  ⟨tVar i, fun X hX => pe_var (by rw [hX.hN]; exact hN) (hX.v x hv) h1 h2, fun S H σ I Q q => by
    obtain ⟨l, e, n, ow⟩ := I.own hd ho
    exact ⟨_, e, q _ S H I .refl e trivial⟩⟩
/-- f(e, ..) where one argument, the object in slot i, is changed -/
theorem ev_callC {x : Str} {st : Stmt} {ps : List Str} {lv : Nat} (i : Nat) {s : Sl} {o o' : Ow} (F : c.Def x st ps lv (Prm c.K c.mg R)) (ha : AV c B (e :: es) sl p ks sl1) (hcs : ArgC sl1 i o ks cs) (hR : R cs (.ret k) cs') (hio : ∀ (m : Nat), cs[m]? = some (.io 0 o) → cs'[m]? = some (.io 0 o'))
    (hk : k.firm = true ∧ ∀ i, k ≠ .at i) (hs : sl1[i]? = some s := by rfl) (ho : s.ow = some o := by rfl) (hlv : lv ≤ c.lv := by exact Nat.le_of_ble_eq_true rfl) (hg : c.sc.names.lookup x = some .globalImplicit := by rfl)
    (hdb : (x == ("__debug__" : Str)) = false := by decide) (he : ∀ env, starEach (e :: es) env = (false, eval e env) :: starEach es env := by intro env; rfl) (hpl : ∀ env, (backTo pos (starEach es env)).any (·.1) = false := by intro env; rfl) : EV c B (.Call (.Name x p1) (e :: es) [] pos) sl false k (sl1.set i (s.put o')) := by
  obtain ⟨f, fd, hm, hF, hb, G⟩ := F.ex
  obtain ⟨t, ht, hh⟩ := ha
  refine ⟨fun σ H Q => t σ H fun vs H1 => Prm c.K c.mg R vs H1 Q fun cls d H' => c.W cls d σ H', fun X hX => pe_callG (by rw [hX.hP, hX.hw, hX.hK, hX.hm, hX.hb]; exact G) (hX.rm.mono hlv) hX.gu hX.tk (hX.g x hg) (by rw [hX.hm]; exact hm) (by rw [hX.hK]; exact hF.kp) (by rw [hX.hK]; exact hb) (ht X hX) hdb (he _) (hpl _), fun S H σ I Q fn => ?_⟩
  refine hh S H σ I _ fun vs S1 H1 I1 a1 x1 => ?_
  obtain ⟨l, el, nl, ow⟩ := I1.own hs ho
  obtain ⟨e1, m, v0, hc0, hv0, hsv, rest⟩ := hcs.slot x1
  rw [el] at hsv
  cases hsv
  have J0 : Stt c.K ⟨S1, H1, [l]⟩ S1 H1 (vs.map some) cs := by
    refine ⟨.refl _, I1.sh, fun a o h1 h2 => (by have h3 : S1 a = none := h2; rw [h1] at h3; cases h3), fun a o e _ _ => e, fun a o e => ⟨o, e⟩, fun l' h' => by rw [List.mem_singleton.mp h']; exact ow.some, by rw [List.length_map]; exact e1, fun n s2 e => ?_, fun n1 n2 a y1 y2 => ?_, I1.tabs, (fun a ps e => ⟨ps, e⟩), I1.snt, I1.sm1 ow⟩
    · by_cases hn : n = m
      · subst hn
        rw [hc0] at e
        cases e
        exact ⟨some (.ref l), by rw [List.getElem?_map, hv0]; rfl, l, rfl, nl, ow, rfl⟩
      · obtain ⟨_, v, hv, h⟩ := rest n s2 e hn
        refine ⟨some v, by rw [List.getElem?_map, hv]; rfl, ?_⟩
        rcases h with ⟨d, rfl, t⟩ | rfl
        · exact ⟨v, rfl, t⟩
        · rfl
    · have only : ∀ {n : Nat} {a : Addr}, FpAt (vs.map some) cs n a → n = m := fun {n a} ⟨s3, x3, h3, _, w3⟩ => by
        by_cases hn : n = m
        · exact hn
        · obtain ⟨_, v, hv, h⟩ := rest n s3 h3 hn
          rcases h with ⟨d, rfl, t⟩ | rfl
          · exact absurd w3 fpS_val
          · exact absurd w3 fpS_raw
      rw [only y1, only y2]
  refine ⟨S1, [l], cs, .ret k, cs', hR, J0, fun v S' H' J hv => ?_⟩
  obtain ⟨y, hy, l2, e2, n2, ow2, hj2⟩ := J.slot m _ (hio m hc0)
  have e3 : l2 = l := by
    have : ([l] : List Addr)[0]? = some l2 := hj2
    simpa using this.symm
  subst e3
  have kp : ∀ a o, H1 a = some o → (∀ ps, o ≠ .tbl ps) → a ≠ l2 → H' a = some o := fun a o e ht hn => J.keep a o e (by simpa using hn) ht
  have I2 := I1.after hs ho (put_ow (o' := o') ho) put_kind el J.s0 J.sh J.new kp J.tbk J.tabs J.snt n2 ow2
  have own : ∀ a, OwnAt σ (sl1.set i (s.put o')) a → OwnAt σ sl1 a := fun a h => by
    rcases ownAt_setS h with h | ⟨x, hx, f⟩
    · exact h
    · rw [el] at hx
      cases hx
      have hf : FpS s (some (.ref l2)) a := by
        rcases f with ⟨o2, _, e⟩ | ⟨d, fp, e, _⟩
        · exact .inl ⟨o, ho, e⟩
        · cases s with
          | no => cases ho
          | val d => cases ho
          | raw d => cases ho
          | prv d fp => cases ho
          | own o => cases e
          | io j o => cases e
      exact ⟨i, s, _, hs, el, hf⟩
  obtain ⟨kd, fr⟩ := kd_back I1 hk own hv
  refine fn v S' H' I2 ((a1.trans (q := false) ⟨J.s0, J.new, J.dom, fun a o e ht na => kp a o e ht fun z => na ⟨i, .of_ow hs ho (by rw [el, z])⟩, (fun h => nomatch h), own⟩).weak fun h => nomatch h) kd (fr.back a1)

/-! ### keywords -/
def KV (c : CxD) (B : Bs) (kws : List Keyword) (sl : List Sl) (p : Bool) (ks : List Kd) (sl' : List Sl) : Prop := ∃ t, (∀ X, InCx c X → PK X kws t) ∧ SemA c.K B t sl p ks sl'
theorem kv_nil : KV c B [] sl true [] sl := ⟨tNil, fun _ _ => pk_nil, fun S H σ I Q q => q [] S H I .refl .nil⟩
theorem kv_cons {kws : List Keyword} {nm : Option Str} {kpos : Pos} (ha : EV c B e sl p k sl1) (hr : KV c B kws sl1 q ks sl2) (hk : (q || k.firm) = true := by rfl) : KV c B (⟨nm, e, kpos⟩ :: kws) sl (p && q) (k :: ks) sl2 := by
  obtain ⟨ta, ha, sa⟩ := ha
  obtain ⟨tb, hb, sb⟩ := hr
  refine ⟨tCons ta tb, fun X hX => pk_cons (ha X hX) (hb X hX), fun S H σ I Q fn => ?_⟩
  refine sa S H σ I _ fun x S1 H1 I1 a1 x1 f1 => sb S1 H1 σ I1 _ fun vs S2 H2 I2 a2 x2 => ?_
  exact fn _ S2 H2 I2 (a1.trans a2) (.cons (x1.adv a2 hk) x2)
theorem KdsOk.len {K : PySem.W.Frag} {S H : Hp} {σ : L2.St} : ∀ {vs : List V} {ks : List Kd}, KdsOk K B σ sl S H vs ks → vs.length = ks.length
  | _, _, .nil => rfl
  | _, _, .cons _ t => congrArg (· + 1) (KdsOk.len t)
theorem KdsOk.get {K : PySem.W.Frag} {S H : Hp} {σ : L2.St} : ∀ {vs : List V} {ks : List Kd} (i : Nat), KdsOk K B σ sl S H vs ks → (vs[i]? = none ∧ ks[i]? = none) ∨ ∃ v k, vs[i]? = some v ∧ ks[i]? = some k ∧ KdOk K B σ sl S H v k
  | _, _, _, .nil => .inl ⟨by simp, by simp⟩
  | _, _, 0, .cons h _ => .inr ⟨_, _, rfl, rfl, h⟩
  | _, _, i + 1, .cons _ t => by
    have := KdsOk.get i t
    simpa using this
theorem KdsOk.pick {K : PySem.W.Frag} {S H : Hp} {σ : L2.St} {vs : List V} (h : KdsOk K B σ sl S H vs ks) : ∀ ix : List Nat, KdsOk K B σ sl S H (Mw.pick vs ix) (Mw.pick ks ix)
  | [] => .nil
  | i :: ix => by
    have ih := KdsOk.pick h ix
    unfold Mw.pick at ih ⊢
    rcases h.get i with ⟨e1, e2⟩ | ⟨v, k, e1, e2, hk⟩
    · rw [List.filterMap_cons_none e1, List.filterMap_cons_none e2]
      exact ih
    · rw [List.filterMap_cons_some e1, List.filterMap_cons_some e2]
      exact .cons hk ih
theorem KdsOk.app {K : PySem.W.Frag} {S H : Hp} {σ : L2.St} : ∀ {vs ws : List V} {ks ks' : List Kd}, KdsOk K B σ sl S H vs ks → KdsOk K B σ sl S H ws ks' → KdsOk K B σ sl S H (vs ++ ws) (ks ++ ks')
  | _, _, _, _, .nil, h => h
  | _, _, _, _, .cons h t, s => .cons h (KdsOk.app t s)
/-- how the text of a def binds n positional arguments and the keywords ks -/
def KwOk (x : Str) (st : Stmt) (ps ks : List Str) (n : Nat) (ix : List Nat) : Prop := ∀ (kV doc pm : Value) (an : Option Addr) (cdv ct : Value) (us ws : List Value), us.length = n → ws.length = ks.length →
  bindArgs (PySem.W.fnOf x x (defArgs st) (defBody st) (defScope st) .none kV doc pm an cdv ct) ⟨us, ks.zip ws⟩ = pure (ps.zip (pick (us ++ ws) ix))
theorem KwOk.kwb {K : PySem.W.Frag} {x : Str} {st : Stmt} {f : Addr} {fd : FuncData} {ps nms : List Str} {n : Nat} {ix : List Nat} (h : KwOk x st ps nms n ix) (F : Fun K x x st f fd) : KwB K fd ps nms n ix := fun s us ws _ h1 h2 => by
  obtain ⟨oc, od, kV, doc, pm, an, cdv, ct, osl, rfl, lk, hcd⟩ := F.ex
  exact .of_eq (h kV doc pm an cdv ct us ws h1 h2)
/-- f(k = e, ..): nothing is changed -/
theorem ev_callK {x : Str} {st : Stmt} {ps nms : List Str} {lv : Nat} {kws : List Keyword} {ix : List Nat} (F : c.DefK x st ps lv (Prm c.K c.mg R)) (kb : KwOk x st ps nms 0 ix) (ha : KV c B kws sl p ks sl1) (hcs : ArgP (pick ks ix) cs) (hR : R cs (.ret k) cs) (hk : k.firm = true ∧ ∀ i, k ≠ .at i) (hlv : lv ≤ c.lv := by exact Nat.le_of_ble_eq_true rfl) (hg : c.sc.names.lookup x = some .globalImplicit := by rfl)
    (hlk : ks.length = kws.length := by rfl) (hln : kws.length = nms.length := by rfl) (hall : ∀ env, (backToKw pos (keywordEach kws env)).all (·.1.isSome) = true := by intro _; rfl) (hks : ∀ env, (backToKw pos (keywordEach kws env)).filterMap (·.1) = nms := by intro _; rfl)
    (hdb : (x == ("__debug__" : Str)) = false := by decide) (hpl : ∀ env, ((backTo pos (starEach [] env)).any (·.1) || (backToKw pos (keywordEach kws env)).any (·.1.isNone)) = false := by intro _; rfl) : EV c B (.Call (.Name x p1) [] kws pos) sl p k sl1 := by
  obtain ⟨f, fd, hm, hF, G⟩ := F.ex
  obtain ⟨t, ht, hs⟩ := ha
  refine ⟨fun σ H Q => t σ H fun vs H1 => vs.length = kws.length ∧ Prm c.K c.mg R (pick vs ix) H1 Q fun cls d H' => c.W cls d σ H', fun X hX => pe_callGK0 (by rw [hX.hP, hX.hw, hX.hK, hX.hm, hX.hb]; exact G) (hX.rm.mono hlv) hX.gu hX.tk (hX.g x hg) (by rw [hX.hm]; exact hm) (by rw [hX.hK]; exact hF.kp) (by rw [hX.hK]; exact kb.kwb hF) (ht X hX) hln (hall _) (hks _) hdb (hpl _), fun S H σ I Q fn => ?_⟩
  refine hs S H σ I _ fun vs S1 H1 I1 a1 x1 => ⟨by rw [x1.len]; exact hlk, S1, [], cs, .ret k, cs, hR, hcs.stt I1 (x1.pick ix), fun v S' H' J hv => ?_⟩
  obtain ⟨I2, a2⟩ := back0 I1 J
  obtain ⟨kd, fr⟩ := kd_back I1 hk (fun _ h => h) hv
  exact fn v S' H' I2 ((a1.trans a2).weak fun h => by rw [h]; rfl) kd (fr.back a1)
/-- f(e, .., k = e, ..): nothing is changed -/
theorem ev_callPK {x : Str} {st : Stmt} {ps nms : List Str} {lv n : Nat} {kws : List Keyword} {ix : List Nat} (F : c.DefK x st ps lv (Prm c.K c.mg R)) (kb : KwOk x st ps nms n ix) (ha : AV c B (e :: es) sl p ks sl1) (hkv : KV c B kws sl1 q ks' sl2) (hcs : ArgP (pick (ks ++ ks') ix) cs) (hR : R cs (.ret k) cs) (hk : k.firm = true ∧ ∀ i, k ≠ .at i) (hlv : lv ≤ c.lv := by exact Nat.le_of_ble_eq_true rfl) (hg : c.sc.names.lookup x = some .globalImplicit := by rfl)
    (hla : ks.length = (e :: es).length := by rfl) (hn : (e :: es).length = n := by rfl) (hlk : ks'.length = kws.length := by rfl) (hln : kws.length = nms.length := by rfl) (hfm : (q || ks.all Kd.firm) = true := by rfl) (hall : ∀ env, (backToKw pos (keywordEach kws env)).all (·.1.isSome) = true := by intro _; rfl) (hks : ∀ env, (backToKw pos (keywordEach kws env)).filterMap (·.1) = nms := by intro _; rfl)
    (hdb : (x == ("__debug__" : Str)) = false := by decide) (he : ∀ env, starEach (e :: es) env = (false, eval e env) :: starEach es env := by intro env; rfl) (hpl : ∀ env, ((backTo pos (starEach (e :: es) env)).any (·.1) || (backToKw pos (keywordEach kws env)).any (·.1.isNone)) = false := by intro _; rfl) : EV c B (.Call (.Name x p1) (e :: es) kws pos) sl (p && q) k sl2 := by
  obtain ⟨f, fd, hm, hF, G⟩ := F.ex
  obtain ⟨t, ht, hs⟩ := ha
  obtain ⟨t', ht', hs'⟩ := hkv
  refine ⟨fun σ H Q => t σ H fun vs H1 => vs.length = (e :: es).length ∧ t' σ H1 fun ws H2 => ws.length = kws.length ∧ Prm c.K c.mg R (pick (vs ++ ws) ix) H2 Q fun cls d H' => c.W cls d σ H', fun X hX => pe_callGK (by rw [hX.hP, hX.hw, hX.hK, hX.hm, hX.hb]; exact G) (hX.rm.mono hlv) hX.gu hX.tk (hX.g x hg) (by rw [hX.hm]; exact hm) (by rw [hX.hK]; exact hF.kp) (by rw [hX.hK]; exact kb.kwb hF) (ht X hX) (ht' X hX) hln hn (hall _) (hks _) hdb (he _) (hpl _), fun S H σ I Q fn => ?_⟩
  refine hs S H σ I _ fun vs S1 H1 I1 a1 x1 => ⟨by rw [x1.len]; exact hla, hs' S1 H1 σ I1 _ fun ws S2 H2 I2 a2 x2 => ⟨by rw [x2.len]; exact hlk, S2, [], cs, .ret k, cs, hR, hcs.stt I2 (((x1.adv a2 hfm).app x2).pick ix), fun v S' H' J hv => ?_⟩⟩
  obtain ⟨I3, a3⟩ := back0 I2 J
  obtain ⟨kd, fr⟩ := kd_back I2 hk (fun _ h => h) hv
  exact fn v S' H' I3 (((a1.trans a2).trans a3).weak fun h => by rw [h]; rfl) kd (fr.back (a1.trans a2))
end

/-! ## the end of a law -/
/-- the law's promise: called with a script, it says True -/
def spLaw (K : PySem.W.Frag) (n : Nat) : Sp := fun vs H Q _ => ∃ (a : Addr) (ns : List Int), vs = [.ref a] ∧ Only H ∧ SqL K H a (ns.map V.int) ∧ ns.length ≤ n ∧ ∀ H', Q (.bl true) H'
end Mw

/-! MwH: the end of a law. -/
namespace Mw
open PySem PySem.Spec L2
variable [Tb]

/-- the law's promise: called with a script of at most n numbers, it says True -/
def lawR (n : Nat) : Rel := fun cs k cs' => ∃ ns : List Int, cs = [.val (.list (nums ns))] ∧ ns.length ≤ n ∧ k = .ret (.st (.bool true)) ∧ cs' = cs
end Mw

/-! MwI: a, b = x, y; isinstance. -/
namespace Mw
open PySem PySem.Spec L2
variable [Tb]

section
variable {K : PySem.W.Frag} {B : Bs} {S H : Hp} {σ : L2.St} {sl : List Sl} {v w : V} {k k2 : Kd} {i j : Nat}
/-- behind a slot's writing another result still stands -/
theorem KdOk.put (x : KdOk K B σ sl S H v k) (hi : ∀ m, k ≠ .at m) (hf : ∀ d, k ≠ .ft d) (k2 : Kd) (hne : ∀ o o' l l', k = .fr o → k2 = .fr o' → v = .ref l → w = .ref l' → l ≠ l') : KdOk K B (σ.set i (some w)) (sl.set i k2.asS) S H v k := by
  cases k with
  | st d => exact x
  | ls d => exact x
  | raw u => exact x
  | nw u => exact x
  | ft u => exact absurd rfl (hf u)
  | «at» m => exact absurd rfl (hi m)
  | fr o =>
    obtain ⟨l, e, n, n0, ow, na⟩ := x
    refine ⟨l, e, n, n0, ow, fun h => ?_⟩
    rcases ownAt_set h with h | h
    · exact na h
    · cases k2 with
      | fr o' => have e2 := fpS_own.mp h; cases e2; exact hne o o' l l rfl rfl e rfl rfl
      | st d => exact fpS_val h
      | ls d => exact fpS_no h
      | raw u => exact fpS_raw h
      | nw u => exact fpS_no h
      | ft u => exact fpS_no h
      | «at» q => exact fpS_no h
end
section
variable {c : CxD} {B : Bs} {e a b d3 : Expr} {es : List Expr} {ss rest : List Stmt} {sl sl1 sl2 sl3 : List Sl} {p q q3 : Bool} {k k1 k2 k3 : Kd} {ks : List Kd} {pos px py pz pt p1 p2 p3 : Pos} {R : Rt} {d : PyData} {ds ds' : List PyData}
theorem fr_ne {K : PySem.W.Frag} {S H : Hp} {σ : L2.St} {v w : V} (x1 : KdOk K B σ sl S H v k1) (f2 : Frs H w k2) : ∀ o o' l l', k1 = .fr o → k2 = .fr o' → v = .ref l → w = .ref l' → l ≠ l' := fun o o' l l' e1 e2 e3 e4 z => by
  subst e1 e2 e3 e4 z
  obtain ⟨m, em, _, _, ow, _⟩ := x1
  cases em
  obtain ⟨u, eu⟩ := ow.some
  have := f2 l rfl
  rw [eu] at this
  cases this
theorem star_no {e : Expr} {P : Prop} (h : ∀ v m, e ≠ .Starred v m) (z : (match e with | .Starred _ _ => true | _ => false) = true) : P := by
  cases e with
  | Starred v m => exact absurd rfl (h v m)
  | _ => cases z
theorem sw2 {X : Cx} {x y : Str} {kt k2' : Nat} {pt2 : Pos} (hk : X.env.scope.kind = .function) (hx : X.env.scope.names.lookup x = some .local) (hy : X.env.scope.names.lookup y = some .local) (hxy : (x == y) = false) (hl : (py.line == px.line) = true)
    (ha : ∀ v m, a ≠ .Starred v m) (hb : ∀ v m, b ≠ .Starred v m) (h1 : [a, b].all (foldedForSure 8) = false) (h2 : [a, b].all (constantsAlone 8) = false) :
    swappedStores [.Tuple [.Name x px, .Name y py] kt pt] (.Tuple [a, b] k2' pt2) X.env = pure (some [x, y]) := by
  have kx : X.env.kindOf x = some .local := hx
  have ky : X.env.kindOf y = some .local := hy
  have hbk : X.env.blockKind = .function := by unfold Env.blockKind; rw [hk]; rfl
  have e1 : ([x, y] : List Str).eraseDups.length = 2 := by
    have hne : ¬ y = x := fun z => by rw [z] at hxy; simp at hxy
    simp [List.eraseDups_cons, hne]
  have hl2 : py.line = px.line := by simpa using hl
  unfold swappedStores
  simp only [h1, h2, hbk]
  simp [kx, ky, Expr.pos, hl2, e1]
  all_goals (intro h; rcases h with h | h <;> first | exact star_no ha h | exact star_no hb h)
theorem sw3 {X : Cx} {x y z : Str} {kt k2' : Nat} {pt2 : Pos} (hk : X.env.scope.kind = .function) (hx : X.env.scope.names.lookup x = some .local) (hy : X.env.scope.names.lookup y = some .local) (hz : X.env.scope.names.lookup z = some .local) (hxy : (x == y) = false) (hxz : (x == z) = false) (hyz : (y == z) = false) (hl : (py.line == px.line) = true) (hl' : (pz.line == px.line) = true)
    (ha : ∀ v m, a ≠ .Starred v m) (hb : ∀ v m, b ≠ .Starred v m) (hd : ∀ v m, d3 ≠ .Starred v m) (h1 : [a, b, d3].all (foldedForSure 8) = false) (h2 : [a, b, d3].all (constantsAlone 8) = false) :
    swappedStores [.Tuple [.Name x px, .Name y py, .Name z pz] kt pt] (.Tuple [a, b, d3] k2' pt2) X.env = pure (some [x, y, z]) := by
  have kx : X.env.kindOf x = some .local := hx
  have ky : X.env.kindOf y = some .local := hy
  have kz : X.env.kindOf z = some .local := hz
  have hbk : X.env.blockKind = .function := by unfold Env.blockKind; rw [hk]; rfl
  have e1 : ([x, y, z] : List Str).eraseDups.length = 3 := by
    have n1 : ¬ y = x := fun z => by rw [z] at hxy; simp at hxy
    have n2 : ¬ z = x := fun z => by rw [z] at hxz; simp at hxz
    have n3 : ¬ z = y := fun z => by rw [z] at hyz; simp at hyz
    simp [List.eraseDups_cons, n1, n2, n3]
  have hl2 : py.line = px.line := by simpa using hl
  have hl3 : pz.line = px.line := by simpa using hl'
  unfold swappedStores
  simp only [h1, h2, hbk]
  simp [kx, ky, kz, Expr.pos, hl2, hl3, e1]
  all_goals (intro h; rcases h with h | h | h <;> first | exact star_no ha h | exact star_no hb h | exact star_no hd h)
/-- x, y = a, b with two plain names -/
theorem go_par2 (i j : Nat) {x y : Str} {kt k2' : Nat} {pt2 : Pos} (ha : EV c B a sl p k1 sl1) (hb : EV c B b sl1 q k2 sl2) (h2 : GO c B rest ((sl2.set i k1.asS).set j k2.asS) R) (hk : (q || k1.firm) = true := by rfl) (h1at : ∀ m, k1 ≠ .at m := by intro m h; cases h) (h2at : ∀ m, k2 ≠ .at m := by intro m h; cases h) (h2ft : ∀ m, k2 ≠ .ft m := by intro m h; cases h) (hi : (sl2[i]?).isSome = true := by rfl) (hj : (sl2[j]?).isSome = true := by rfl) (hij : i ≠ j := by decide)
    (hN : c.N[i]? = some x := by rfl) (hN2 : c.N[j]? = some y := by rfl) (nd : c.N.Nodup := by assumption) (hx : c.sc.names.lookup x = some .local := by rfl) (hy : c.sc.names.lookup y = some .local := by rfl) (hxy : (x == y) = false := by decide) (hln : (py.line == px.line) = true := by rfl)
    (has : ∀ v m, a ≠ .Starred v m := by intro _ _ h; cases h) (hbs : ∀ v m, b ≠ .Starred v m := by intro _ _ h; cases h) (hf1 : [a, b].all (foldedForSure 8) = false := by rfl) (hf2 : [a, b].all (constantsAlone 8) = false := by rfl)
    (hsw : ∀ env, swapsWithSole [.Tuple [.Name x px, .Name y py] kt pt] (.Tuple [a, b] k2' pt2) pos.line env = pure false := by intro _; rfl)
    (hst1 : ∀ env, starEach [a, b] env = (false, eval a env) :: starEach [b] env := by intro env; rfl) (hst2 : ∀ env, starEach [b] env = (false, eval b env) :: starEach [] env := by intro env; rfl) :
    GO c B (.Assign [.Tuple [.Name x px, .Name y py] kt pt] (.Tuple [a, b] k2' pt2) pos :: rest) sl R := by
  obtain ⟨ta, ga, sa⟩ := ha
  obtain ⟨tb, gb, sb⟩ := hb
  refine go_to ⟨tPar i j (tCons ta (tCons tb tNil)), fun X hX => ps_par hX.calm (by rw [hX.hN]; exact nd) (by rw [hX.hN]; exact hN) (by rw [hX.hN]; exact hN2) hij (hX.l x hx) (hX.l y hy) (pa_cons (ga X hX) (pa_cons (gb X hX) pa_nil (hst2 _)) (hst1 _)) (sw2 hX.kind (hX.l x hx) (hX.l y hy) hxy hln has hbs hf1 hf2) (hsw _), fun S H σ I D q' => ?_⟩ h2
  refine sa S H σ I _ fun v S1 H1 I1 a1 x1 f1 => sb S1 H1 σ I1 _ fun w S2 H2 I2 a2 x2 f2 => ?_
  refine ⟨v, w, rfl, ?_⟩
  have x1' := x1.adv a2 hk
  have I3 := I2.set (i := i) x1' hi
  have x2' : KdOk c.K B (σ.set i (some v)) (sl2.set i k1.asS) S2 H2 w k2 := x2.put h2at h2ft k1 fun o o' l l' e1 e2 e3 e4 z => fr_ne x1 f2 o' o l' l e2 e1 e4 e3 z.symm
  exact q'.nx S2 H2 _ _ (a1.s.trans a2.s) (I3.set (i := j) x2' (by rw [List.getElem?_set_ne hij]; exact hj)) rfl

/-! ## isinstance -/
def tyD : PyData → String
  | .none => "NoneType"
  | .bool _ => "bool"
  | .int _ => "int"
  | .str _ => "str"
  | .list _ => "list"
  | .tuple _ => "tuple"
  | .dict _ => "dict"
/-- no thing by its address, no exception -/
def plnD : PyData → Bool
  | .dict ds => ds.all fun p => match p.1 with | .none => false | _ => true
  | _ => true
theorem Tr.ty {K : PySem.W.Frag} {H : Hp} {v : V} (h : Tr K H v d) (hp : plnD d = true) : TyX K H v (.type (tyD d)) := by
  cases h with
  | non => exact .base .non
  | bl b => exact .base (.bl b)
  | int i => exact .base (.int i)
  | str x => exact .base (.str x)
  | lst h t =>
    rcases h with (h | ⟨o, h⟩) | ⟨o, its, n, h1, h2, _⟩
    · exact .base (.lst h)
    · exact .base (.frz h)
    · exact .kList h1 h2
  | tup h t =>
    rcases h with (h | ⟨o, h⟩) | ⟨o, its, n, h1, h2, _⟩
    · exact .base (.tup h)
    · exact .fTuple h
    · exact .kTuple h1 h2
  | rw a => exact absurd hp (by simp [plnD])
  | exc0 h => exact absurd hp (by simp [plnD])
  | exc1 h hx t => exact absurd hp (by simp [plnD])
  | bkd hs ho h h1 h2 => exact absurd hp (by simp [plnD])
  | dct h t =>
    rcases h with h | ⟨o, h⟩
    · exact .base (.dK h)
    · exact .fDict h
theorem ev_isi {n : String} {t : Bool} (ha : EV c B a sl p (.st d) sl1) (hb : EV c B b sl1 q (.raw (.ty n)) sl2) (ht : kitB (tyD d) n = some t) (hm : c.mg "isinstance" = none) (hpd : plnD d = true := by first | rfl | assumption) (hg : c.sc.names.lookup ("isinstance" : Str) = some .globalImplicit := by rfl)
    (he : ∀ env, starEach [a, b] env = (false, eval a env) :: starEach [b] env := by intro env; rfl) (he2 : ∀ env, starEach [b] env = (false, eval b env) :: starEach [] env := by intro env; rfl) (hpl : ∀ env, (backTo pos (starEach [b] env)).any (·.1) = false := by intro env; rfl) :
    EV c B (.Call (.Name "isinstance" p1) [a, b] [] pos) sl (p && q) (.st (.bool t)) sl2 := by
  have h := ev_callB (pos := pos) (p1 := p1) (ks := [.st d, .raw (.ty n)]) (k := .st (.bool t)) (r := rIsi c.K) (fun X hX => by have := call_isi (X := X); rw [hX.hK] at this; exact this) (fun B σ sl S H vs I hv Q q => by
    obtain ⟨v, w, rfl, h1, h2⟩ := two_arg hv
    have e2 : w = .ty n := h2
    subst e2
    exact ⟨v, .ty n, .type (tyD d), .type n, t, rfl, .ty n, (Tr.mono I.sh h1).ty hpd, kit_ty ht, q.st I (.bl t)⟩) (av_cons ha (av_cons hb av_nil rfl he2) (by simp [Kd.firm]) he) hm (by decide +kernel) hg he hpl
  rwa [Bool.and_true] at h
end
end Mw

/-! MwJ: promises in two plain forms; what a def gives back. -/
namespace Mw
open PySem PySem.Spec L2
variable [Tb]

/-- nothing is changed -/
def Pure {α : Type} (pre : α → Prop) (args : α → List Sl) (res : α → Kd) : Rel := fun cs k cs' => ∃ a, pre a ∧ cs = args a ∧ k = .ret (res a) ∧ cs' = cs
/-- nothing is changed; it may raise -/
def PureX {α : Type} (pre : α → Prop) (args : α → List Sl) (res : α → Out) : Rel := fun cs k cs' => ∃ a, pre a ∧ cs = args a ∧ k = res a ∧ cs' = cs
/-- one argument is changed -/
def Chg {α : Type} (pre : α → Prop) (args : α → List Sl) (res : α → Kd) (args' : α → List Sl) : Rel := fun cs k cs' => ∃ a, pre a ∧ cs = args a ∧ k = .ret (res a) ∧ cs' = args' a
def plainS : List Sl → Bool
  | [] => true
  | .val _ :: r => plainS r
  | .raw _ :: r => plainS r
  | _ => false
theorem plain_shp : ∀ {cs : List Sl}, plainS cs = true → Shp cs cs
  | [], _ => .nil
  | .val _ :: r, h => .val (plain_shp (cs := r) h)
  | .raw _ :: r, h => .raw (plain_shp (cs := r) h)
  | .no :: _, h => by cases h
  | .own _ :: _, h => by cases h
  | .io _ _ :: _, h => by cases h
  | .prv _ _ :: _, h => by cases h
theorem plain_io : ∀ {cs : List Sl} {i j : Nat} {o : Ow}, plainS cs = true → cs[i]? ≠ some (.io j o)
  | [], i, j, o, _ => by simp
  | .val _ :: r, 0, j, o, _ => by simp
  | .raw _ :: r, 0, j, o, _ => by simp
  | .val _ :: r, i + 1, j, o, h => by simpa using plain_io (cs := r) (i := i) h
  | .raw _ :: r, i + 1, j, o, h => by simpa using plain_io (cs := r) (i := i) h
  | .no :: _, _, _, _, h => by cases h
  | .own _ :: _, _, _, _, h => by cases h
  | .io _ _ :: _, _, _, _, h => by cases h
  | .prv _ _ :: _, _, _, _, h => by cases h
def okK : Kd → Bool
  | .st _ => true
  | .fr _ => true
  | .raw _ => true
  | .ft _ => true
  | _ => false
theorem okK_h {k : Kd} (h : okK k = true) : k.firm = true ∧ ∀ i, k ≠ .at i := by
  cases k with
  | st d => exact ⟨rfl, fun i e => by cases e⟩
  | fr d => exact ⟨rfl, fun i e => by cases e⟩
  | raw d => exact ⟨rfl, fun i e => by cases e⟩
  | ls d => cases h
  | nw d => cases h
  | ft d => exact ⟨rfl, fun i e => by cases e⟩
  | «at» d => cases h
abbrev retP (k : Kd) : Rt := { nx := fun _ => k = .st .none, rt := fun k' _ => k' = k }
theorem GO.mono {c : CxD} {B : Bs} {ss : List Stmt} {sl : List Sl} {R R' : Rt} (h : GO c B ss sl R) (h1 : ∀ s, R.nx s → R'.nx s) (h2 : ∀ k s, R.rt k s → R'.rt k s) (h3 : ∀ s, R.bk s → R'.bk s := by intro s h; exact h) (h4 : ∀ s, R.ct s → R'.ct s := by intro s h; exact h) (h5 : ∀ x s, R.ex x s → R'.ex x s := by intro x s h; exact h) : GO c B ss sl R' := by
  obtain ⟨t, ht, hs⟩ := h
  exact ⟨t, ht, fun S H σ I D q => hs S H σ I D ⟨fun S' H' σ' sl' s I' x => q.nx S' H' σ' sl' s I' (h1 _ x), fun S' H' σ' sl' v k s I' x y => q.rt S' H' σ' sl' v k s I' x (h2 _ _ y), fun S' H' σ' sl' s I' x => q.bk S' H' σ' sl' s I' (h3 _ x), fun S' H' σ' sl' s I' x => q.ct S' H' σ' sl' s I' (h4 _ x), fun S' H' σ' sl' cls dx y s I' z x => q.ex S' H' σ' sl' cls dx y s I' z (h5 _ _ x)⟩⟩
section
variable {P : Program} {w : World} {K : PySem.W.Frag} {mg : Str → Option Value} {base : Heap}
theorem pure_fn {α : Type} {pre : α → Prop} {args : α → List Sl} {res : α → Kd} {x qual : Str} {st : Stmt} {f : Addr} {fd : FuncData} {N ps : List Str} {lv : Nat} (F : Fun K x qual st f fd) (Sc : FnScope N ps (defScope st)) (hl : ∀ a, (args a).length = ps.length) (hn : ∀ a, plainS (args a) = true) (hk : ∀ a, okK (res a) = true)
    (body : ∀ (E : XK) (B : Bs) (a : α), pre a → GO ⟨P, w, K, mg, base, N, defScope st, lv, fun cls d _ H => E cls d H, true, ⟨fd.code, qual ++ ".<locals>.", fun _ => True⟩⟩ B (defBody st) (pad (args a) N.length) (retP (res a))) : FnG P w K mg base (lv + 1) f fd ps (Prm K mg (Pure pre args res)) :=
  prm_of F Sc (fun cs k cs' h => by obtain ⟨a, _, rfl, rfl, rfl⟩ := h; exact ⟨hl a, plain_shp (hn a)⟩) (fun cs k cs' h => by obtain ⟨a, _, rfl, rfl, rfl⟩ := h; exact okK_h (hk a)) fun E B cs k cs' h => by
    obtain ⟨a, hp, rfl, rfl, rfl⟩ := h
    have io : ∀ sl, IoIn (args a) sl := fun sl i j o e => absurd e (plain_io (hn a))
    exact (body E B a hp).mono (fun s h => ⟨congrArg Out.ret h, io s⟩) (fun k s h => ⟨congrArg Out.ret h.symm, io s⟩) (fun _ h => h) (fun _ h => h) (fun x s h => h.elim)
abbrev retX (u : Out) : Rt := { nx := fun _ => u = .ret (.st .none), rt := fun k' _ => u = .ret k', ex := fun x _ => u = .exn x }
def okO : Out → Bool
  | .ret k => okK k
  | .exn _ => true
theorem okO_h {u : Out} (h : okO u = true) : u.ok := by
  cases u with
  | ret k => exact okK_h h
  | exn x => trivial
theorem pureX_fn {α : Type} {pre : α → Prop} {args : α → List Sl} {res : α → Out} {x qual : Str} {st : Stmt} {f : Addr} {fd : FuncData} {N ps : List Str} {lv : Nat} (F : Fun K x qual st f fd) (Sc : FnScope N ps (defScope st)) (hl : ∀ a, (args a).length = ps.length) (hn : ∀ a, plainS (args a) = true) (hk : ∀ a, okO (res a) = true)
    (body : ∀ (E : XK) (B : Bs) (a : α), pre a → GO ⟨P, w, K, mg, base, N, defScope st, lv, fun cls d _ H => E cls d H, true, ⟨fd.code, qual ++ ".<locals>.", fun _ => True⟩⟩ B (defBody st) (pad (args a) N.length) (retX (res a))) : FnG P w K mg base (lv + 1) f fd ps (Prm K mg (PureX pre args res)) :=
  prm_of F Sc (fun cs k cs' h => by obtain ⟨a, _, rfl, rfl, rfl⟩ := h; exact ⟨hl a, plain_shp (hn a)⟩) (fun cs k cs' h => by obtain ⟨a, _, rfl, rfl, rfl⟩ := h; exact okO_h (hk a)) fun E B cs k cs' h => by
    obtain ⟨a, hp, rfl, rfl, rfl⟩ := h
    have io : ∀ sl, IoIn (args a) sl := fun sl i j o e => absurd e (plain_io (hn a))
    exact (body E B a hp).mono (fun s h => ⟨h, io s⟩) (fun k s h => ⟨h, io s⟩) (fun _ h => h) (fun _ h => h) (fun x s h => ⟨h, io s⟩)
theorem chg_fn {α : Type} {pre : α → Prop} {args args' : α → List Sl} {res : α → Kd} {x qual : Str} {st : Stmt} {f : Addr} {fd : FuncData} {N ps : List Str} {lv : Nat} (F : Fun K x qual st f fd) (Sc : FnScope N ps (defScope st)) (hl : ∀ a, (args a).length = ps.length) (hn : ∀ a, Shp (args a) (args' a)) (hk : ∀ a, okK (res a) = true)
    (body : ∀ (E : XK) (B : Bs) (a : α), pre a → GO ⟨P, w, K, mg, base, N, defScope st, lv, fun cls d _ H => E cls d H, true, ⟨fd.code, qual ++ ".<locals>.", fun _ => True⟩⟩ B (defBody st) (pad (args a) N.length) (toRt (res a) (args' a))) : FnG P w K mg base (lv + 1) f fd ps (Prm K mg (Chg pre args res args')) :=
  prm_of F Sc (fun cs k cs' h => by obtain ⟨a, _, rfl, rfl, rfl⟩ := h; exact ⟨hl a, hn a⟩) (fun cs k cs' h => by obtain ⟨a, _, rfl, rfl, rfl⟩ := h; exact okK_h (hk a)) fun E B cs k cs' h => by
    obtain ⟨a, hp, rfl, rfl, rfl⟩ := h
    exact (body E B a hp).mono (fun s h => ⟨congrArg Out.ret h.1, h.2⟩) (fun k s h => ⟨congrArg Out.ret h.1.symm, h.2⟩) (fun _ h => h) (fun _ h => h) (fun x s h => h.elim)
/-- one place alone is changed -/
theorem ioin_at {cs' sl : List Sl} (m : Nat) {o : Ow} (h : ∀ (i j : Nat) (o' : Ow), cs'[i]? = some (.io j o') → j = 0 ∧ o' = o) (hm : sl[m]? = some (.io 0 o)) : IoIn cs' sl := fun i j o' e => by
  obtain ⟨rfl, rfl⟩ := h i j o' e
  exact ⟨m, hm⟩
end
section
variable {c : CxD} {B : Bs} {e a b : Expr} {es : List Expr} {ss rest : List Stmt} {sl sl1 sl2 : List Sl} {p q : Bool} {k : Kd} {ks ks' : List Kd} {pos p1 : Pos} {R : Rt}
theorem go_retO (i : Nat) {x : Str} {o : Ow} (hr : R.rt (.fr o) (sl.set i .no)) (hs : sl[i]? = some (.own o) := by rfl) (hN : c.N[i]? = some x := by rfl) (hv : Vis c.sc x := by first | exact .inl rfl | exact .inr (.inl rfl) | exact .inr (.inr rfl)) (h1 : (x == ("__debug__" : Str)) = false := by decide) (h2 : (x == ("__classdict__" : Str)) = false := by decide) :
    GO c B (.Return (some (.Name x p1)) pos :: rest) sl R := by
  refine go_cons (M := fun _ => False) ⟨tRet (tVar i), fun X hX => ps_ret (pe_var (by rw [hX.hN]; exact hN) (hX.v x hv) h1 h2), fun S H σ I D q => ?_⟩ fun _ h => h.elim
  obtain ⟨y, hy, l, rfl, n, ow, n0⟩ := I.slot i _ hs
  have I' : Stt c.K B S H σ (sl.set i .no) := I.forget i
  refine ⟨.ref l, hy, q.rt S H σ _ _ (.fr o) (.refl _) I' ⟨l, rfl, n, n0, ow, fun ⟨j, y⟩ => ?_⟩ hr⟩
  rcases fpAt_setS y with ⟨h1, f1⟩ | ⟨h1, _, _, f1⟩
  · exact h1 (I.dis j i l f1 (.of_ow hs rfl hy))
  · exact fpS_no f1
theorem go_retN (hr : R.rt (.st .none) sl) : GO c B (.Return none pos :: rest) sl R := by
  refine go_cons (M := fun _ => False) ⟨tRetN, fun X hX => ps_retN, fun S H σ I D q => ?_⟩ fun _ h => h.elim
  exact q.rt S H σ sl .non (.st .none) (.refl _) I .non hr
/-- a call of a def that changes nothing -/
theorem ev_callP {α : Type} {pre : α → Prop} {args : α → List Sl} {res : α → Kd} {x : Str} {st : Stmt} {ps : List Str} {lv : Nat} {P : Program} {w : World} {K : PySem.W.Frag} {mg : Str → Option Value} {base : Heap} (v : α) (F : DefOk P w K mg base x st ps lv (Prm K mg (Pure pre args res))) (ha : AV c B (e :: es) sl p ks sl1) (hcs : ArgP ks (args v)) (hp : pre v) (hk : okK (res v) = true := by rfl) (hc : DefOk P w K mg base x st ps lv (Prm K mg (Pure pre args res)) → c.Def x st ps lv (Prm c.K c.mg (Pure pre args res)) := by exact fun h => h) (hlv : lv ≤ c.lv := by exact Nat.le_of_ble_eq_true rfl) (hg : c.sc.names.lookup x = some .globalImplicit := by rfl)
    (hdb : (x == ("__debug__" : Str)) = false := by decide) (he : ∀ env, starEach (e :: es) env = (false, eval e env) :: starEach es env := by intro env; rfl) (hpl : ∀ env, (backTo pos (starEach es env)).any (·.1) = false := by intro env; rfl) : EV c B (.Call (.Name x p1) (e :: es) [] pos) sl p (res v) sl1 :=
  ev_call (hc F) ha hcs ⟨v, hp, rfl, rfl, rfl⟩ (okK_h hk) hlv hg hdb he hpl
theorem ev_callPk {α : Type} {pre : α → Prop} {args : α → List Sl} {res : α → Kd} {x : Str} {st : Stmt} {ps nms : List Str} {lv : Nat} {kws : List Keyword} {ix : List Nat} {P : Program} {w : World} {K : PySem.W.Frag} {mg : Str → Option Value} {base : Heap} (v : α) (F : DefOk P w K mg base x st ps lv (Prm K mg (Pure pre args res))) (kb : KwOk x st ps nms 0 ix) (ha : KV c B kws sl p ks sl1) (hcs : ArgP (pick ks ix) (args v)) (hp : pre v) (hk : okK (res v) = true := by rfl) (hc : DefK P w K mg base x st ps lv (Prm K mg (Pure pre args res)) → c.DefK x st ps lv (Prm c.K c.mg (Pure pre args res)) := by exact fun h => h) (hlv : lv ≤ c.lv := by exact Nat.le_of_ble_eq_true rfl) (hg : c.sc.names.lookup x = some .globalImplicit := by rfl)
    (hlk : ks.length = kws.length := by rfl) (hln : kws.length = nms.length := by rfl) (hall : ∀ env, (backToKw pos (keywordEach kws env)).all (·.1.isSome) = true := by intro _; rfl) (hks : ∀ env, (backToKw pos (keywordEach kws env)).filterMap (·.1) = nms := by intro _; rfl)
    (hdb : (x == ("__debug__" : Str)) = false := by decide) (hpl : ∀ env, ((backTo pos (starEach [] env)).any (·.1) || (backToKw pos (keywordEach kws env)).any (·.1.isNone)) = false := by intro _; rfl) : EV c B (.Call (.Name x p1) [] kws pos) sl p (res v) sl1 :=
  ev_callK (hc F.toK) kb ha hcs ⟨v, hp, rfl, rfl, rfl⟩ (okK_h hk) hlv hg hlk hln hall hks hdb hpl
/-- a call of a def that changes the object in slot i -/
theorem ev_callX {α : Type} {pre : α → Prop} {args args' : α → List Sl} {res : α → Kd} {x : Str} {st : Stmt} {ps : List Str} {lv : Nat} {P : Program} {w : World} {K : PySem.W.Frag} {mg : Str → Option Value} {base : Heap} (i : Nat) {s : Sl} {o : Ow} (o' : Ow) (v : α) (F : DefOk P w K mg base x st ps lv (Prm K mg (Chg pre args res args'))) (ha : AV c B (e :: es) sl p ks sl1) (hcs : ArgC sl1 i o ks (args v)) (hp : pre v) (hio : ∀ (m : Nat), (args v)[m]? = some (.io 0 o) → (args' v)[m]? = some (.io 0 o'))
    (hk : okK (res v) = true := by rfl) (hs : sl1[i]? = some s := by rfl) (ho : s.ow = some o := by rfl) (hc : DefOk P w K mg base x st ps lv (Prm K mg (Chg pre args res args')) → c.Def x st ps lv (Prm c.K c.mg (Chg pre args res args')) := by exact fun h => h) (hlv : lv ≤ c.lv := by exact Nat.le_of_ble_eq_true rfl) (hg : c.sc.names.lookup x = some .globalImplicit := by rfl)
    (hdb : (x == ("__debug__" : Str)) = false := by decide) (he : ∀ env, starEach (e :: es) env = (false, eval e env) :: starEach es env := by intro env; rfl) (hpl : ∀ env, (backTo pos (starEach es env)).any (·.1) = false := by intro env; rfl) : EV c B (.Call (.Name x p1) (e :: es) [] pos) sl false (res v) (sl1.set i (s.put o')) :=
  ev_callC i (hc F) ha hcs ⟨v, hp, rfl, rfl, rfl⟩ hio (okK_h hk) hs ho hlv hg hdb he hpl
end
end Mw

/-! MwK: facts often wanted. -/
namespace Mw
open PySem PySem.Spec L2
variable [Tb]
/-! ## which type is which -/
theorem kb_NoneType_int : kitB "NoneType" "int" = some false := by decide +kernel
theorem kb_NoneType_bool : kitB "NoneType" "bool" = some false := by decide +kernel
theorem kb_NoneType_list : kitB "NoneType" "list" = some false := by decide +kernel
theorem kb_NoneType_dict : kitB "NoneType" "dict" = some false := by decide +kernel
theorem kb_NoneType_str : kitB "NoneType" "str" = some false := by decide +kernel
theorem kb_NoneType_tuple : kitB "NoneType" "tuple" = some false := by decide +kernel
theorem kb_bool_int : kitB "bool" "int" = some true := by decide +kernel
theorem kb_bool_bool : kitB "bool" "bool" = some true := by decide +kernel
theorem kb_bool_list : kitB "bool" "list" = some false := by decide +kernel
theorem kb_bool_dict : kitB "bool" "dict" = some false := by decide +kernel
theorem kb_bool_str : kitB "bool" "str" = some false := by decide +kernel
theorem kb_bool_tuple : kitB "bool" "tuple" = some false := by decide +kernel
theorem kb_int_int : kitB "int" "int" = some true := by decide +kernel
theorem kb_int_bool : kitB "int" "bool" = some false := by decide +kernel
theorem kb_int_list : kitB "int" "list" = some false := by decide +kernel
theorem kb_int_dict : kitB "int" "dict" = some false := by decide +kernel
theorem kb_int_str : kitB "int" "str" = some false := by decide +kernel
theorem kb_int_tuple : kitB "int" "tuple" = some false := by decide +kernel
theorem kb_str_int : kitB "str" "int" = some false := by decide +kernel
theorem kb_str_bool : kitB "str" "bool" = some false := by decide +kernel
theorem kb_str_list : kitB "str" "list" = some false := by decide +kernel
theorem kb_str_dict : kitB "str" "dict" = some false := by decide +kernel
theorem kb_str_str : kitB "str" "str" = some true := by decide +kernel
theorem kb_str_tuple : kitB "str" "tuple" = some false := by decide +kernel
theorem kb_list_int : kitB "list" "int" = some false := by decide +kernel
theorem kb_list_bool : kitB "list" "bool" = some false := by decide +kernel
theorem kb_list_list : kitB "list" "list" = some true := by decide +kernel
theorem kb_list_dict : kitB "list" "dict" = some false := by decide +kernel
theorem kb_list_str : kitB "list" "str" = some false := by decide +kernel
theorem kb_list_tuple : kitB "list" "tuple" = some false := by decide +kernel
theorem kb_tuple_int : kitB "tuple" "int" = some false := by decide +kernel
theorem kb_tuple_bool : kitB "tuple" "bool" = some false := by decide +kernel
theorem kb_tuple_list : kitB "tuple" "list" = some false := by decide +kernel
theorem kb_tuple_dict : kitB "tuple" "dict" = some false := by decide +kernel
theorem kb_tuple_str : kitB "tuple" "str" = some false := by decide +kernel
theorem kb_tuple_tuple : kitB "tuple" "tuple" = some true := by decide +kernel
theorem kb_dict_int : kitB "dict" "int" = some false := by decide +kernel
theorem kb_dict_bool : kitB "dict" "bool" = some false := by decide +kernel
theorem kb_dict_list : kitB "dict" "list" = some false := by decide +kernel
theorem kb_dict_dict : kitB "dict" "dict" = some true := by decide +kernel
theorem kb_dict_str : kitB "dict" "str" = some false := by decide +kernel
theorem kb_dict_tuple : kitB "dict" "tuple" = some false := by decide +kernel
/-! ## slices -/
theorem cut_to {α : Type} (ds : List α) (n : Nat) : cutD ds none (some (n : Int)) = ds.take n := by
  unfold cutD
  rw [HT.sIx_nat, HT.sIx_none, Nat.sub_zero, List.drop_zero]
  rcases Nat.le_total n ds.length with h | h
  · rw [Nat.min_eq_left h]
  · rw [Nat.min_eq_right h, List.take_length, List.take_of_length_le h]
theorem cut_from {α : Type} (ds : List α) (n : Nat) : cutD ds (some (n : Int)) none = ds.drop n := by
  unfold cutD
  rw [HT.sIx_nat, HT.sIx_none]
  rcases Nat.le_total n ds.length with h | h
  · rw [Nat.min_eq_left h]
    exact List.take_of_length_le (by rw [List.length_drop]; exact Nat.le_refl _)
  · rw [Nat.min_eq_right h, Nat.sub_self, List.take_zero, List.drop_of_length_le h]
theorem nums_take (xs : List Int) (n : Nat) : (nums xs).take n = nums (xs.take n) := by unfold nums; rw [List.map_take]
theorem nums_drop (xs : List Int) (n : Nat) : (nums xs).drop n = nums (xs.drop n) := by unfold nums; rw [List.map_drop]
abbrev kL (xs : List Int) : Sl := .val (.list (nums xs))
abbrev kI (i : Int) : Sl := .val (.int i)
abbrev kB (b : Bool) : Sl := .val (.bool b)
abbrev kO (xs : List Int) : Sl := .own (.lst (nums xs))
section
variable {c : CxD} {B : Bs} {e a b : Expr} {es : List Expr} {ss rest : List Stmt} {sl sl1 sl2 : List Sl} {p q : Bool} {k k1 : Kd} {ks ks' : List Kd} {pos p1 p2 : Pos} {R : Rt} {ds : List PyData} {xs : List Int} {n : Nat}
theorem ev_sliceTo (ha : EV c B a sl p k1 sl1) (h2 : EV c B b sl1 true (.st (.int (n : Int))) sl1) (hl : LsK k1 ds := by first | exact .st | exact .ls | exact .fr) : EV c B (.Subscript a (.Slice none (some b) none p2) pos) sl p (.fr (.lst (ds.take n))) sl1 :=
  (ev_slice ha so_none (so_some h2) hl).to (by rw [cut_to])
theorem ev_sliceFrom (ha : EV c B a sl p k1 sl1) (h2 : EV c B b sl1 true (.st (.int (n : Int))) sl1) (hl : LsK k1 ds := by first | exact .st | exact .ls | exact .fr) : EV c B (.Subscript a (.Slice (some b) none none p2) pos) sl p (.fr (.lst (ds.drop n))) sl1 :=
  (ev_slice ha (so_some h2) so_none hl).to (by rw [cut_from])
theorem ev_sliceToN (ha : EV c B a sl p k1 sl1) (h2 : EV c B b sl1 true (.st (.int (n : Int))) sl1) (hl : LsK k1 (nums xs) := by first | exact .st | exact .ls | exact .fr) : EV c B (.Subscript a (.Slice none (some b) none p2) pos) sl p (.fr (.lst (nums (xs.take n)))) sl1 :=
  (ev_sliceTo ha h2 hl).to (by rw [nums_take])
theorem ev_sliceFromN (ha : EV c B a sl p k1 sl1) (h2 : EV c B b sl1 true (.st (.int (n : Int))) sl1) (hl : LsK k1 (nums xs) := by first | exact .st | exact .ls | exact .fr) : EV c B (.Subscript a (.Slice (some b) none none p2) pos) sl p (.fr (.lst (nums (xs.drop n)))) sl1 :=
  (ev_sliceFrom ha h2 hl).to (by rw [nums_drop])
/-- an item of a list of numbers -/
theorem ev_ixN {x : Int} (ha : EV c B a sl p k1 sl1) (hb : EV c B b sl1 q (.st (.int (n : Int))) sl2) (h : xs[n]? = some x) (hl : LsK k1 (nums xs) := by first | exact .st | exact .ls | exact .fr) (hs : PlainIx b := by exact fun _ _ => rfl) (hk : (q || k1.firm) = true := by first | rfl | (simp [Kd.firm])) : EV c B (.Subscript a b pos) sl (p && q) (.st (.int x)) sl2 :=
  ev_ix ha hb hl (atI_nat (get_nums h)) hs hk
theorem numbered_nums {i : Nat} {d : PyData} (h : (numbered (nums xs))[i]? = some d) : ∃ x, xs[i]? = some x ∧ d = .tuple [.int (i : Nat), .int x] := by
  have hi : i < (nums xs).length := by
    have := (List.getElem?_eq_some_iff.mp h).1
    rwa [numbered_len] at this
  rw [numbered_get (List.getElem?_eq_getElem hi)] at h
  obtain ⟨x, hx, e⟩ := nums_get (List.getElem?_eq_getElem hi)
  exact ⟨x, hx, by rw [← e]; exact (Option.some.inj h).symm⟩
theorem upI_at {lo : Int} {m i : Nat} {d : PyData} (h : (upI lo m)[i]? = some d) : i < m ∧ d = .int (lo + i) := by
  have hi : i < m := by
    have := (List.getElem?_eq_some_iff.mp h).1
    rwa [upI_len] at this
  rw [upI_get hi] at h
  exact ⟨hi, (Option.some.inj h).symm⟩
/-- powers: the base below 2 ^ m -/
theorem pow_ok {i j : Int} (m : Nat) (hi : i.natAbs < 2 ^ m) (hm : 0 < m) (hj : 0 ≤ j) (h : (m : Int) * j ≤ 2 ^ 27) : CPowW i j := by
  refine ⟨hj, ?_⟩
  have h1 := PySem.Flt.log2_lt_of hm hi
  have h2 : (Builtin.Int.intBits i : Int) ≤ m := by
    unfold Builtin.Int.intBits
    split
    · exact Int.natCast_nonneg m
    · have : i.natAbs.log2 + 1 ≤ m := h1
      exact_mod_cast this
  exact Int.le_trans (Int.mul_le_mul_of_nonneg_right h2 hj) h
theorem natAbs_pow_lt {i : Int} {m : Nat} (n : Nat) (hi : i.natAbs < 2 ^ m) (hn : 0 < n) : (i ^ n).natAbs < 2 ^ (m * n) := by
  rw [Int.natAbs_pow, Nat.pow_mul]
  exact Nat.pow_lt_pow_left hi (by omega)
/-- products: both below 2 ^ 400000 -/
theorem mul_ok {i j : Int} (a b : Nat) (ha : i.natAbs < 2 ^ a) (hb : j.natAbs < 2 ^ b) (h0 : 0 < a := by decide) (h1 : 0 < b := by decide) (h : a + b ≤ 1000000 := by decide) : CMulW i j := wide_mul ha hb h0 h1 h
end
end Mw

/-! MwL: isinstance of a built-in class. -/
namespace Mw
open PySem PySem.Spec L2
variable [Tb]
inductive Ty6 where
  | int | bool | list | dict | str | tuple
def Ty6.nm : Ty6 → String
  | .int => "int" | .bool => "bool" | .list => "list" | .dict => "dict" | .str => "str" | .tuple => "tuple"
def Ty6.st : Ty6 → Str
  | .int => "int" | .bool => "bool" | .list => "list" | .dict => "dict" | .str => "str" | .tuple => "tuple"
def isK : PyData → Ty6 → Bool
  | .none, _ => false
  | .bool _, .bool => true
  | .bool _, .int => true
  | .int _, .int => true
  | .str _, .str => true
  | .list _, .list => true
  | .tuple _, .tuple => true
  | .dict _, .dict => true
  | _, _ => false
theorem kit_isK : ∀ (d : PyData) (n : Ty6), kitB (tyD d) n.nm = some (isK d n) := by
  intro d n
  cases d <;> cases n <;> first | exact kb_NoneType_int | exact kb_NoneType_bool | exact kb_NoneType_list | exact kb_NoneType_dict | exact kb_NoneType_str | exact kb_NoneType_tuple | exact kb_bool_int | exact kb_bool_bool | exact kb_bool_list | exact kb_bool_dict | exact kb_bool_str | exact kb_bool_tuple | exact kb_int_int | exact kb_int_bool | exact kb_int_list | exact kb_int_dict | exact kb_int_str | exact kb_int_tuple | exact kb_str_int | exact kb_str_bool | exact kb_str_list | exact kb_str_dict | exact kb_str_str | exact kb_str_tuple | exact kb_list_int | exact kb_list_bool | exact kb_list_list | exact kb_list_dict | exact kb_list_str | exact kb_list_tuple | exact kb_tuple_int | exact kb_tuple_bool | exact kb_tuple_list | exact kb_tuple_dict | exact kb_tuple_str | exact kb_tuple_tuple | exact kb_dict_int | exact kb_dict_bool | exact kb_dict_list | exact kb_dict_dict | exact kb_dict_str | exact kb_dict_tuple
theorem sw_fold {ts vs : List Expr} {kt k2 : Nat} {pt pt2 : Pos} (h : vs.all (foldedForSure 8) = true) (env : Env) : swappedStores [.Tuple ts kt pt] (.Tuple vs k2 pt2) env = pure none := by
  unfold swappedStores
  simp only [h, if_true]
  repeat (first | rfl | split)
theorem boot_Ty6 (n : Ty6) : bootBuiltins n.st = some (.type n.nm) := by cases n <;> decide +kernel
section
variable {c : CxD} {B : Bs} {e a b d3 : Expr} {sl sl1 : List Sl} {p : Bool} {pos p1 p2 : Pos} {d : PyData}
theorem ev_isB (n : Ty6) (ha : EV c B a sl p (.st d) sl1) (hm : c.mg "isinstance" = none) (hn : c.mg n.st = none) (hpd : plnD d = true := by first | rfl | assumption) (hg : c.sc.names.lookup ("isinstance" : Str) = some .globalImplicit := by rfl) (hg2 : c.sc.names.lookup n.st = some .globalImplicit := by rfl)
    (he : ∀ env, starEach [a, .Name n.st p2] env = (false, eval a env) :: starEach [.Name n.st p2] env := by intro env; rfl) (hpl : ∀ env, (backTo pos (starEach [.Name n.st p2] env)).any (·.1) = false := by intro env; rfl) :
    EV c B (.Call (.Name "isinstance" p1) [a, .Name n.st p2] [] pos) sl p (.st (.bool (isK d n))) sl1 := by
  have h := ev_isi (pos := pos) (p1 := p1) ha (ev_gty (pos := p2) hn (boot_Ty6 n) hg2 (by cases n <;> decide) (by cases n <;> decide)) (kit_isK d n) hm hpd hg he (fun _ => rfl) hpl
  rwa [Bool.and_true] at h
theorem tv_to {t u : Bool} (h : TV c B e sl p t sl1) (ht : t = u) : TV c B e sl p u sl1 := ht ▸ h
theorem ev_sl {k : Kd} {sl2 : List Sl} (h : EV c B e sl p k sl1) (hs : sl1 = sl2) : EV c B e sl p k sl2 := hs ▸ h
theorem ev_both {k k' : Kd} {sl2 : List Sl} (h : EV c B e sl p k sl1) (hk : k = k') (hs : sl1 = sl2) : EV c B e sl p k' sl2 := hs ▸ hk ▸ h
theorem b01 (b : Bool) : -(2 ^ 63) ≤ (if b = true then (1 : Int) else 0) ∧ (if b = true then (1 : Int) else 0) < 2 ^ 63 := by cases b <;> decide
theorem b01n (b : Bool) {n : Nat} (h : n ≤ 1000000) : n * (if b = true then (1 : Int) else 0).toNat ≤ 1000000 := by cases b <;> simp <;> omega
theorem b01f {α : Type} (b : Bool) (x : α) : (List.replicate (if b = true then (1 : Int) else 0).toNat [x]).flatten.length ≤ 1 := by cases b <;> simp
end
end Mw

/-! MwM: objects hidden for a while; a list of new objects and the loop over it. -/
namespace Mw
open PySem PySem.Spec L2
variable [Tb]

def hideB (B : Bs) (F : Hp) : Bs := ⟨B.S0, fun a => (match F a with | some o => some o | none => B.H0 a), B.ls⟩
section
variable {K : PySem.W.Frag} {B : Bs} {F S S' H H' : Hp} {σ : L2.St} {sl : List Sl} {v : V} {k : Kd} {a : Addr} {o : HO}
theorem hideB_none (h : (hideB B F).H0 a = none) : F a = none ∧ B.H0 a = none := by
  unfold hideB at h
  dsimp only at h
  cases e : F a with
  | none => rw [e] at h; exact ⟨rfl, h⟩
  | some u => rw [e] at h; cases h
theorem hideB_some (h : F a = some o) : (hideB B F).H0 a = some o := by unfold hideB; dsimp only; rw [h]
theorem hideB_old (h : F a = none) : (hideB B F).H0 a = B.H0 a := by unfold hideB; dsimp only; rw [h]
theorem Stt.hide (I : Stt K B S H σ sl) (hF : ∀ a o, F a = some o → H a = some o ∧ S a = none ∧ B.H0 a = none ∧ ¬ OwnAt σ sl a ∧ ¬ Hard o) : Stt K (hideB B F) S H σ sl where
  s0 := I.s0
  sh := I.sh
  new := fun a o e e0 => by
    have h0 := I.new a o e e0
    cases e2 : F a with
    | none => rw [hideB_old e2]; exact h0
    | some u => have := (hF a u e2).2.1; rw [e] at this; cases this
  keep := fun a o e hn ht => by
    cases e2 : F a with
    | none => rw [hideB_old e2] at e; exact I.keep a o e hn ht
    | some u => rw [hideB_some e2] at e; cases e; exact (hF a _ e2).1
  dom := fun a o e => by
    cases e2 : F a with
    | none => rw [hideB_old e2] at e; exact I.dom a o e
    | some u => exact ⟨u, (hF a _ e2).1⟩
  lsd := fun l hl => by
    obtain ⟨o, e⟩ := I.lsd l hl
    cases e2 : F l with
    | none => exact ⟨o, by rw [hideB_old e2]; exact e⟩
    | some u => exact ⟨u, hideB_some e2⟩
  len := I.len
  slot := fun i s e => by
    obtain ⟨x, hx, ok⟩ := I.slot i s e
    refine ⟨x, hx, ?_⟩
    cases s with
    | no => trivial
    | val d => exact ok
    | raw u => exact ok
    | io j o => exact ok
    | own o =>
      obtain ⟨l, e1, n, ow, n0⟩ := ok
      refine ⟨l, e1, n, ow, ?_⟩
      cases e2 : F l with
      | none => rw [hideB_old e2]; exact n0
      | some u => exact absurd ⟨i, _, x, e, hx, fpS_own.mpr e1⟩ (hF l u e2).2.2.2.1
    | prv d fp =>
      obtain ⟨v, e1, t, nd, n⟩ := ok
      refine ⟨v, e1, t, nd, fun a m => ⟨(n a m).1, ?_⟩⟩
      cases e2 : F a with
      | none => rw [hideB_old e2]; exact (n a m).2
      | some u => exact absurd ⟨i, _, x, e, hx, fpS_prv.mpr m⟩ (hF a u e2).2.2.2.1
  dis := I.dis
  tabs := I.tabs
  snt := I.snt
  sm := by
    obtain ⟨⟨φ, e, hs⟩, n⟩ := I.sm
    refine ⟨?_, n⟩
    cases e2 : F sysModules with
    | none => exact ⟨φ, by rw [hideB_old e2]; exact e, hs⟩
    | some u =>
      obtain ⟨_, _, h0, _⟩ := hF _ u e2
      rw [e] at h0
      cases h0
  tbk := fun a ps e => by
    cases e2 : F a with
    | none => rw [hideB_old e2] at e; exact I.tbk a ps e
    | some u => rw [hideB_some e2] at e; cases e; exact absurd (.inl ⟨ps, rfl⟩) (hF a _ e2).2.2.2.2
theorem Stt.unhide (I : Stt K (hideB B F) S H σ sl) (hF : ∀ a o, F a = some o → B.H0 a = none ∧ B.S0 a = none ∧ ¬ Hard o) (hl : ∀ l, l ∈ B.ls → ∃ o, B.H0 l = some o) : Stt K B S H σ sl ∧ ∀ a o, F a = some o → H a = some o ∧ S a = none ∧ ¬ OwnAt σ sl a := by
  have nls : ∀ a o, F a = some o → a ∉ B.ls := fun a o e h => by
    obtain ⟨u, eu⟩ := hl a h
    rw [(hF a o e).1] at eu
    cases eu
  refine ⟨⟨I.s0, I.sh, fun a o e e0 => (hideB_none (I.new a o e e0)).2, fun a o e hn ht => ?_, fun a o e => ?_, hl, I.len, fun i s e => ?_, I.dis, I.tabs, (fun a ps e => ?_), I.snt, by
    obtain ⟨⟨φ, e, hs⟩, n⟩ := I.sm
    refine ⟨?_, n⟩
    cases e2 : F sysModules with
    | none => exact ⟨φ, by rw [hideB_old e2] at e; exact e, hs⟩
    | some u =>
      rw [hideB_some e2] at e
      cases e
      exact absurd (.inr ⟨φ, rfl⟩) (hF _ _ e2).2.2⟩, fun a o e => ⟨?_, ?_, ?_⟩⟩
  · cases e2 : F a with
    | none => exact I.keep a o (by rw [hideB_old e2]; exact e) hn ht
    | some u => rw [(hF a u e2).1] at e; cases e
  · cases e2 : F a with
    | none => exact I.dom a o (by rw [hideB_old e2]; exact e)
    | some u => exact ⟨u, I.keep a u (hideB_some e2) (nls a u e2) (Hard.nt (hF a u e2).2.2)⟩
  · obtain ⟨x, hx, ok⟩ := I.slot i s e
    refine ⟨x, hx, ?_⟩
    cases s with
    | no => trivial
    | val d => exact ok
    | raw u => exact ok
    | io j o => exact ok
    | own o =>
      obtain ⟨l, e1, n, ow, n0⟩ := ok
      exact ⟨l, e1, n, ow, (hideB_none n0).2⟩
    | prv d fp =>
      obtain ⟨v, e1, t, nd, n⟩ := ok
      exact ⟨v, e1, t, nd, fun a m => ⟨(n a m).1, (hideB_none (n a m).2).2⟩⟩
  · cases e2 : F a with
    | none => exact I.tbk a ps (by rw [hideB_old e2]; exact e)
    | some u => rw [(hF a u e2).1] at e; cases e
  · exact I.keep a o (hideB_some e) (nls a o e) (Hard.nt (hF a o e).2.2)
  · cases e2 : S a with
    | none => rfl
    | some u => have := (hideB_none (I.new a u e2 (hF a o e).2.1)).1; rw [e] at this; cases this
  · rintro ⟨i, s, x, h1, h2, h3⟩
    obtain ⟨x', hx, ok⟩ := I.slot i s h1
    rw [h2] at hx
    cases hx
    cases s with
    | no => exact fpS_no h3
    | val d => exact fpS_val h3
    | raw u => exact fpS_raw h3
    | io j o3 =>
      obtain ⟨l, e1, n, ow, hj⟩ := ok
      rw [fpS_io.mp h3] at e1
      cases e1
      exact nls a o e (List.mem_of_getElem? hj)
    | own o3 =>
      obtain ⟨l, e1, n, ow, n0⟩ := ok
      rw [fpS_own.mp h3] at e1
      cases e1
      have := (hideB_none n0).1
      rw [e] at this
      cases this
    | prv d fp =>
      obtain ⟨v, e1, t, nd, n⟩ := ok
      have := (hideB_none (n a (fpS_prv.mp h3)).2).1
      rw [e] at this
      cases this
theorem KdOk.unhide (x : KdOk K (hideB B F) σ sl S H v k) : KdOk K B σ sl S H v k := by
  cases k with
  | st d => exact x
  | ls d => exact x
  | raw u => exact x
  | nw u => exact x
  | ft u =>
    obtain ⟨G, t, nd, hG⟩ := x
    exact ⟨G, t, nd, fun l m => ⟨(hG l m).1, (hideB_none (hG l m).2.1).2, (hG l m).2.2⟩⟩
  | «at» m => exact x
  | fr o =>
    obtain ⟨l, e, n, n0, ow, na⟩ := x
    exact ⟨l, e, n, (hideB_none n0).2, ow, na⟩
/-! ## new objects, held by nobody yet -/
def New1 (K : PySem.W.Frag) (B : Bs) (S H : Hp) (σ : L2.St) (sl : List Sl) (a : Addr) (o : Ow) : Prop := S a = none ∧ B.H0 a = none ∧ OwOk K S H a o ∧ ¬ OwnAt σ sl a
/-- from one state to a later one, all that stood still stands -/
structure Gro (S H S' H' : Hp) : Prop where
  s : Same S S'
  h : Sam H H'
  n : ∀ a o, S' a = some o → S a = none → H a = none
theorem Gro.refl : Gro S H S H := ⟨.refl _, .refl _, fun a o h1 h2 => by rw [h1] at h2; cases h2⟩
theorem New1.gro {o : Ow} (x : New1 K B S H σ sl a o) (g : Gro S H S' H') : New1 K B S' H' σ sl a o := by
  obtain ⟨h1, h2, h3, h4⟩ := x
  obtain ⟨u, eu, nu⟩ := h3.soft
  refine ⟨?_, h2, h3.ext g.s ((g.h.st _ _ eu (Hard.nt nu)).trans eu.symm), h4⟩
  cases e : S' a with
  | none => rfl
  | some w => rw [g.n a w e h1] at eu; cases eu
theorem Paired.pick {α β : Type} {F : α → β → Prop} {l₁ : List α} {l₂ : List β} (h : Paired F l₁ l₂) : ∀ {i : Nat} {b : β}, l₂[i]? = some b → ∃ a, l₁[i]? = some a ∧ F a b := by
  induction h with
  | nil => intro i b e; simp at e
  | cons h t ih =>
    intro i b e
    cases i with
    | zero => simp at e; subst e; exact ⟨_, rfl, h⟩
    | succ i => simpa using ih (by simpa using e)
theorem Paired.pickL {α β : Type} {F : α → β → Prop} {l₁ : List α} {l₂ : List β} (h : Paired F l₁ l₂) : ∀ {i : Nat} {a : α}, l₁[i]? = some a → ∃ b, l₂[i]? = some b ∧ F a b := by
  induction h with
  | nil => intro i b e; simp at e
  | cons h t ih =>
    intro i b e
    cases i with
    | zero => simp at e; subst e; exact ⟨_, rfl, h⟩
    | succ i => simpa using ih (by simpa using e)
/-- L is a new list of the new objects -/
structure Nst (K : PySem.W.Frag) (B : Bs) (S H : Hp) (σ : L2.St) (sl : List Sl) (L : Addr) (as : List Addr) (os : List Ow) : Prop where
  nS : S L = none
  n0 : B.H0 L = none
  na : ¬ OwnAt σ sl L
  hd : H L = some (.lst (as.map V.ref))
  nL : L ∉ as
  nd : as.Nodup
  all : Paired (New1 K B S H σ sl) as os
end
/-- e gives a new list of new objects -/
def NV (c : CxD) (B : Bs) (e : Expr) (sl : List Sl) (p : Bool) (os : List Ow) (sl' : List Sl) : Prop :=
  ∃ t, (∀ X, InCx c X → PE X e t) ∧ ∀ S H σ, Stt c.K B S H σ sl → ∀ Q : VK, (∀ L as S' H', Stt c.K B S' H' σ sl' → Adv σ sl S H sl' S' H' p → Nst c.K B S' H' σ sl' L as os → Q (.ref L) H') → t σ H Q
section
variable {c : CxD} {B : Bs} {tg e a b elt iter : Expr} {ifs : List Expr} {ss rest ba : List Stmt} {sl sl1 sl2 sl3 : List Sl} {p q z t : Bool} {k k1 k2 : Kd} {pos p1 p2 p3 : Pos} {ds es : List PyData} {i j : Int} {scope : Scope} {own : List (Str × Nat)} {R : Rt}
/-- [f(x) for x in ..], each a new object -/
theorem nv_comp (own : List (Str × Nat)) (g : PyData → Ow) (hi : EI c B tg iter sl p ds z sl1)
    (hs : ∀ (i : Nat) (d : PyData), ds[i]? = some d → ∃ js s2, GT (c.blk scope) B tg d js (wipeS sl1 (own.map (·.2))) s2 ∧ (∀ x ∈ js, x ∈ own.map (·.2)) ∧ TVs (c.blk scope) B ifs s2 true ∧ EV (c.blk scope) B elt s2 true (.fr (g d)) s2)
    (hl : ds.length ≤ 1000000) (ok : blkC c.N c.sc scope own = true := by (try dsimp only [CxD.blk]); decide +kernel) (nd : c.N.Nodup := by assumption) (hf : ∀ env x, foldedSetIterable iter env x = pure x := by intro _ _; rfl) : NV c B (.ListComp elt [⟨tg, iter, ifs, 0⟩] scope pos) sl p (ds.map g) sl1 := by
  obtain ⟨wi, gi, si⟩ := hi
  have sk : scope.kind = .function := (blkOk_by ok).kind
  let c' := c.blk scope
  let g0 : TG := fun v σ H Q => ∃ g : TG, (∀ X, InCx c' X → PG X tg g) ∧ g v σ H Q
  let tt : TT := fun σ H Q => ∃ t, (∀ X, InCx c' X → PTs X ifs t) ∧ t σ H Q
  have gP : ∀ X, InCx c' X → PG X tg g0 := fun X hX => ⟨fun pins s σ H v u Q I r ⟨g, hg, h⟩ => (hg X hX).run pins s σ H v u Q I r h⟩
  have tP : ∀ X, InCx c' X → PTs X ifs tt := fun X hX => ⟨fun pins s σ H Q I ⟨t, ht, h⟩ => (ht X hX).run pins s σ H Q I h⟩
  refine ⟨_, fun X hX => pe_lc hX.calm (by rw [hX.hN]; exact nd) (gi X hX) (blk_in hX ok) (fun s H C cl fp => gP _ (hX.block sk)) (fun s H C cl fp => tP _ (hX.block sk)) (fun s H C cl fp => pe_rE (hX.block sk)) (hf _), fun S H σ I Q fn => si S H σ I _ fun It S1 H1 I1 a1 it => ?_⟩
  intro D nD
  obtain ⟨nS1, n01, naD⟩ := I1.notIn nD
  refine ⟨fun i m H => m = ds.length - i ∧ i ≤ ds.length ∧ ∃ S2 as, Same S1 S2 ∧ (∀ a o, S2 a = some o → S1 a = none → H1 a = none) ∧ Stt c.K B S2 H σ sl1 ∧ Sam H1 H ∧ S2 D = none ∧ H D = some (.lst (as.map V.ref)) ∧ D ∉ as ∧ as.Nodup ∧ Paired (New1 c.K B S2 H σ sl1) as ((ds.take i).map g),
    ⟨ds.length, by simp, Nat.zero_le _, S1, [], .refl _, fun a o h1 h2 => (by rw [h1] at h2; cases h2), I1.laid nD, same_sam (same_new nD), nS1, upd_same, by simp, .nil, .nil⟩, ?_⟩
  rintro i m H2 ⟨rfl, hil, S2, as, s2, n2, I2, h2, nS2, hD, nDas, ndas, tacc⟩
  obtain ⟨it1, it2⟩ := it S2 H2 s2 I2.sh (by
    cases z with
    | true => rw [if_pos rfl]; exact same_sam (s2.trans I2.sh)
    | false => rw [if_neg Bool.false_ne_true]; exact h2) i
  by_cases hlt : i < ds.length
  · have hget := List.getElem?_eq_getElem hlt
    obtain ⟨go, yl⟩ := it1 _ hget
    refine .inr ⟨go, fun H' => ∃ S2 as, Same S1 S2 ∧ (∀ a o, S2 a = some o → S1 a = none → H1 a = none) ∧ Stt c.K B S2 H' σ sl1 ∧ Sam H1 H' ∧ S2 D = none ∧ H' D = some (.lst (as.map V.ref)) ∧ D ∉ as ∧ as.Nodup ∧ Paired (New1 c.K B S2 H' σ sl1) as ((ds.take (i + 1)).map g),
      fun H' h => ⟨ds.length - (i + 1), by omega, rfl, hlt, h⟩, fun x H3 y => ?_⟩
    obtain ⟨S3, b1, b2, b3, b4, bn, tx⟩ := yl x H3 y
    have I3 := I2.grow b1 b3 b2 b4 (bn I2.snt)
    obtain ⟨js, s4, ⟨g1, gp0, gs0⟩, hj, ⟨t0, tp0, ts0⟩, ev⟩ := hs i _ hget
    refine ⟨g1, gp0, gs0 S3 H3 _ x (I3.wipe _) tx _ fun σ' I' l' k' => ⟨wipe_same hj l' k', t0, tp0, ?_⟩⟩
    refine ts0 S3 H3 σ' I' _ fun S4 H4 I4 a4 => ?_
    rw [if_pos rfl]
    refine ev.rr S4 H4 σ' I4 _ fun y S5 H5 I5 a5 x5 f5 => ?_
    obtain ⟨l, rfl, nl5, nl0, ow5, na5⟩ := x5
    have nl4 : H4 l = none := f5 l rfl
    have a45 := a4.trans a5
    -- from S2 H2 to S5 H5
    have g35 : Gro S3 H3 S5 H5 := ⟨a45.s, a45.h rfl, a45.n⟩
    have g25 : Gro S2 H2 S5 H5 := ⟨b1.trans a45.s, (same_sam b3).trans (a45.h rfl), fun a o e1 e2 => by
      cases e3 : S3 a with
      | none => exact (same_sam b3).free (a45.n a o e1 e3)
      | some o3 => exact b4 a o3 e3 e2⟩
    have J : Stt c.K B S5 H5 σ sl1 := I3.growS a45.s (a45.h rfl) I5.sh a45.n I5.tabs I5.snt
    have hD5 : H5 D = some (.lst (as.map V.ref)) := g25.h.st _ _ hD (fun ps z => nomatch z)
    have nD5 : S5 D = none := by
      cases e : S5 D with
      | none => rfl
      | some o => have := g25.n D o e nS2; rw [hD] at this; cases this
    have H24 : Sam H2 H4 := (same_sam b3).trans (a4.h rfl)
    have lD : l ≠ D := fun e => by rw [e] at nl4; rw [H24.st _ _ hD (fun ps z => nomatch z)] at nl4; cases nl4
    have las : l ∉ as := fun hm => by
      obtain ⟨i', hi', e'⟩ := List.getElem_of_mem hm
      obtain ⟨o', _, _, _, ow', _⟩ := Paired.pickL tacc (List.getElem?_eq_getElem hi')
      obtain ⟨u, eu, nu⟩ := ow'.soft
      rw [e'] at eu
      rw [H24.st _ _ eu (Hard.nt nu)] at nl4
      cases nl4
    have naS : ¬ OwnAt σ sl1 l := fun h => by
      obtain ⟨_, u, eu, nu⟩ := I3.ownAt h
      rw [(a4.h rfl).st _ _ eu (Hard.nt nu)] at nl4
      cases nl4
    have nw5 : ∀ a o, S5 a = some o → S1 a = none → H1 a = none := fun a o e1 e2 => by
      cases e3 : S2 a with
      | none => exact h2.free (g25.n a o e1 e3)
      | some o3 => exact n2 a o3 e3 e2
    have cat : (ds.take (i + 1)).map g = (ds.take i).map g ++ [g ds[i]] := by
      rw [List.take_succ, hget, List.map_append]
      rfl
    refine ⟨as.map V.ref, hD5, ?_, S5, as ++ [l], s2.trans g25.s, nw5, J.side nD5 n01 naD hD5 lst_soft, ⟨fun a o e hnt => ?_, fun a ps e => ?_⟩, nD5, ?_, ?_, ?_, ?_⟩
    · have e1 := tacc.length
      rw [List.length_map, List.length_take] at e1
      rw [List.length_map, e1, sizeLine_eq]
      omega
    · rw [upd_ne (ne_of_none e nD)]
      exact g25.h.st _ _ (h2.st _ _ e hnt) hnt
    · rw [upd_ne (ne_of_none e nD)]
      exact (h2.trans g25.h).tb _ _ e
    · rw [upd_same, List.map_append]; rfl
    · intro hm
      rcases List.mem_append.mp hm with hm | hm
      · exact nDas hm
      · exact lD (List.mem_singleton.mp hm).symm
    · rw [List.nodup_append]
      exact ⟨ndas, by simp, fun a ha b hb e => by rw [List.mem_singleton] at hb; subst hb; subst e; exact las ha⟩
    · rw [cat]
      have up : ∀ a o, a ≠ D → New1 c.K B S5 H5 σ sl1 a o → New1 c.K B S5 (upd H5 D (.lst (as.map V.ref ++ [V.ref l]))) σ sl1 a o := fun a o hne ⟨q1, q2, q3, q4⟩ => ⟨q1, q2, q3.ext (.refl _) (upd_ne hne), q4⟩
      refine Paired.snoc ?_ (up l _ lD ⟨nl5, nl0, ow5, naS⟩)
      have t5 := Paired.mapP tacc fun a o x => x.gro g25
      have go : ∀ {as : List Addr} {os : List Ow}, Paired (New1 c.K B S5 H5 σ sl1) as os → D ∉ as → Paired (New1 c.K B S5 (upd H5 D (.lst (as.map V.ref ++ [V.ref l]))) σ sl1) as os → True := fun _ _ _ => trivial
      have go : ∀ {as' : List Addr} {os : List Ow}, Paired (New1 c.K B S5 H5 σ sl1) as' os → D ∉ as' → Paired (New1 c.K B S5 (upd H5 D (.lst (as.map V.ref ++ [V.ref l]))) σ sl1) as' os := fun {as' os} h => by
        induction h with
        | nil => intro _; exact .nil
        | cons h t ih =>
          intro hm
          exact .cons (up _ _ (fun e => hm (by rw [e]; exact List.mem_cons_self)) h) (ih fun z => hm (List.mem_cons_of_mem _ z))
      exact go t5 nDas
  · have e1 : i = ds.length := by omega
    subst e1
    refine .inl ⟨it2 (Nat.le_refl _), ?_⟩
    rw [List.take_length] at tacc
    refine fn D as S2 H2 I2 (a1.trans (q := true) ⟨s2, n2, fun a o e => h2.dom e, fun a o e hnt _ => h2.st _ _ e hnt, fun _ => h2, fun _ h => h⟩ |>.weak fun h => by rw [h]; rfl) ⟨nS2, n01, naD, hD, nDas, ndas, tacc⟩
/-- for x in a new list of new objects: each is x's own in its turn -/
theorem g1_forN (j : Nat) {x : Str} {os : List Ow} (he : NV c B e sl p os sl1) (J : Nat → List Sl → Prop) (h0 : J 0 sl1) (hs : ∀ B' : Bs, ∀ i o s, os[i]? = some o → J i s → (s[j]?).isSome = true ∧ GO c B' ba (s.set j (.own o)) ⟨J (i + 1), R.rt, R.nx, J (i + 1), R.ex⟩) (hd : ∀ s, J os.length s → R.nx s)
    (hN : c.N[j]? = some x := by rfl) (nd : c.N.Nodup := by assumption) (hx : c.sc.names.lookup x = some .local ∨ c.sc.names.lookup x = some .cell := by first | exact .inl rfl | exact .inr rfl) (hf : ∀ env x, foldedSetIterable e env x = pure x := by intro _ _; rfl) : G1 c B (.For (.Name x p1) e ba [] pos) sl R := by
  obtain ⟨te, ge, se⟩ := he
  refine ⟨tFor (iList c.K te) (gName j) (rB c ba), fun X hX => ps_for hX.po hX.calm (by have := pi_list (tg := .Name x p1) (ge X hX); rw [hX.hK] at this; exact this) (pg_name (by rw [hX.hN]; exact nd) (by rw [hX.hN]; exact hN) (hX.loc hx).1 (hX.loc hx).2) (ps_rB hX) (hf _), fun S H σ I D q => se S H σ I _ fun L as S1 H1 I1 a1 N1 => ?_⟩
  refine ⟨L, rfl, ⟨_, .inl (.inl N1.hd)⟩, ?_⟩
  have hlen := N1.all.length
  refine ⟨fun i m σ H => m = os.length - i ∧ i ≤ os.length ∧ ∃ S2 s2, Same S1 S2 ∧ Stt c.K B S2 H σ s2 ∧ J i s2 ∧ S2 L = none ∧ ¬ OwnAt σ s2 L ∧ H L = some (.lst (as.map V.ref)) ∧ ∀ m a o, i ≤ m → as[m]? = some a → os[m]? = some o → New1 c.K B S2 H σ s2 a o,
    ⟨os.length, by simp, Nat.zero_le _, S1, sl1, .refl _, I1, h0, N1.nS, N1.na, N1.hd, fun m a o _ e1 e2 => ?_⟩, ?_⟩
  · obtain ⟨a', e3, h⟩ := Paired.pick N1.all e2
    rw [e1] at e3
    cases e3
    exact h
  rintro i m σ2 H2 ⟨rfl, hil, S2, s2, a2, I2, j2, nS2, naL, hL, al⟩
  by_cases hlt : i < os.length
  · have hget := List.getElem?_eq_getElem hlt
    obtain ⟨ai, hai, _⟩ := Paired.pick N1.all hget
    refine .inr ⟨⟨_, .ref ai, .inl (.inl hL), by rw [List.getElem?_map, hai]; rfl⟩, fun σ' H' => ∃ S3 s3, Same S1 S3 ∧ Stt c.K B S3 H' σ' s3 ∧ J (i + 1) s3 ∧ S3 L = none ∧ ¬ OwnAt σ' s3 L ∧ H' L = some (.lst (as.map V.ref)) ∧ ∀ m a o, i + 1 ≤ m → as[m]? = some a → os[m]? = some o → New1 c.K B S3 H' σ' s3 a o, fun σ' H' h => ⟨os.length - (i + 1), by omega, rfl, hlt, h⟩, fun x H3 y => ?_⟩
    obtain ⟨rfl, y⟩ := y
    have e4 := y _ (.inl (.inl hL))
    rw [List.getElem?_map, hai] at e4
    cases e4
    obtain ⟨nSa, n0a, owa, naa⟩ := al i ai _ (Nat.le_refl _) hai hget
    -- what is hidden
    classical
    let F : Hp := fun a => if a = L ∨ ∃ m, i + 1 ≤ m ∧ m < os.length ∧ as[m]? = some a then H3 a else none
    have hF : ∀ a o, F a = some o → H3 a = some o ∧ S2 a = none ∧ B.H0 a = none ∧ ¬ OwnAt σ2 s2 a ∧ a ≠ ai ∧ ¬ Hard o := fun a o e => by
      have e' : (if a = L ∨ ∃ m, i + 1 ≤ m ∧ m < os.length ∧ as[m]? = some a then H3 a else none) = some o := e
      split at e'
      · rename_i hc
        rcases hc with rfl | ⟨m, hm, hm2, ha⟩
        · exact ⟨e', nS2, N1.n0, naL, fun z => N1.nL (by rw [z]; exact List.mem_of_getElem? hai), by rw [hL] at e'; cases e'; exact lst_soft⟩
        · obtain ⟨q1, q2, q3, q4⟩ := al m a _ (by omega) ha (List.getElem?_eq_getElem hm2)
          refine ⟨e', q1, q2, q4, fun z => ?_, by obtain ⟨u, eu, nu⟩ := q3.soft; rw [eu] at e'; cases e'; exact nu⟩
          subst z
          have l1 := (List.getElem?_eq_some_iff.mp ha).1
          have l2 := (List.getElem?_eq_some_iff.mp hai).1
          have := (List.getElem_inj (h₀ := l1) (h₁ := l2) N1.nd).mp (by rw [(List.getElem?_eq_some_iff.mp ha).2, (List.getElem?_eq_some_iff.mp hai).2])
          omega
      · cases e'
    obtain ⟨hsome, go4⟩ := hs (hideB B F) i _ s2 hget j2
    have I4 : Stt c.K B S2 H3 (σ2.set j (some (.ref ai))) (s2.set j (.own os[i])) := I2.put (.own os[i]) ⟨ai, rfl, nSa, owa, n0a⟩ (fun a m => by have e := fpS_own.mp m; cases e; exact naa) hsome
    have own4 : ∀ a, a ≠ ai → OwnAt (σ2.set j (some (.ref ai))) (s2.set j (.own os[i])) a → OwnAt σ2 s2 a := fun a hne h => by
      rcases ownAt_set h with h | h
      · exact h
      · have e := fpS_own.mp h
        cases e
        exact absurd rfl hne
    have I5 := I4.hide (F := F) fun a o e => by
      obtain ⟨q1, q2, q3, q4, q5, q6⟩ := hF a o e
      exact ⟨q1, q2, q3, fun z => q4 (own4 a q5 z), q6⟩
    have hF2 : ∀ a o, F a = some o → B.H0 a = none ∧ B.S0 a = none ∧ ¬ Hard o := fun a o e => ⟨(hF a o e).2.2.1, I2.s0.free (hF a o e).2.1, (hF a o e).2.2.2.2.2⟩
    have back : ∀ {S' H' : Hp} {σ' : L2.St} {s' : List Sl}, Same S2 S' → Stt c.K (hideB B F) S' H' σ' s' → J (i + 1) s' → ∃ S3 s3, Same S1 S3 ∧ Stt c.K B S3 H' σ' s3 ∧ J (i + 1) s3 ∧ S3 L = none ∧ ¬ OwnAt σ' s3 L ∧ H' L = some (.lst (as.map V.ref)) ∧ ∀ m a o, i + 1 ≤ m → as[m]? = some a → os[m]? = some o → New1 c.K B S3 H' σ' s3 a o := fun {S' H' σ' s'} sS I6 j6 => by
      obtain ⟨I7, al7⟩ := I6.unhide hF2 I2.lsd
      have fL : F L = some (.lst (as.map V.ref)) := by show (if _ then _ else _) = _; rw [if_pos (.inl rfl)]; exact hL
      obtain ⟨q1, q2, q3⟩ := al7 L _ fL
      refine ⟨S', s', a2.trans sS, I7, j6, q2, q3, q1, fun m a o hm ha ho => ?_⟩
      obtain ⟨r1, r2, r3, r4⟩ := al m a o (by omega) ha ho
      obtain ⟨u, eu⟩ := r3.some
      have fa : F a = some u := by
        show (if _ then _ else _) = _
        rw [if_pos (.inr ⟨m, hm, (List.getElem?_eq_some_iff.mp ho).1, ha⟩)]
        exact eu
      obtain ⟨w1, w2, w3⟩ := al7 a u fa
      exact ⟨w2, r2, r3.ext sS (w1.trans eu.symm), w3⟩
    have hl := I2.lsd
    exact go4.rr S2 H3 _ I5 _ ⟨fun S5 H5 σ5 s5 c1 I6 j5 => back c1 I6 j5, fun S5 H5 σ5 s5 v k c1 I6 x5 h5 => q.rt S5 H5 σ5 s5 v k ((a1.s.trans a2).trans c1) (I6.unhide hF2 hl).1 x5.unhide h5,
      fun S5 H5 σ5 s5 c1 I6 h5 => q.nx S5 H5 σ5 s5 ((a1.s.trans a2).trans c1) (I6.unhide hF2 hl).1 h5, fun S5 H5 σ5 s5 c1 I6 j5 => back c1 I6 j5,
      fun S5 H5 σ5 s5 cls dx x c1 I6 z h5 => q.ex S5 H5 σ5 s5 cls dx x ((a1.s.trans a2).trans c1) (I6.unhide hF2 hl).1 z h5⟩
  · have e1 : i = os.length := by omega
    subst e1
    exact .inl ⟨⟨_, .inl (.inl hL), by rw [List.length_map]; omega⟩, q.nx S2 H2 σ2 s2 (a1.s.trans a2) I2 (hd s2 j2)⟩
end
end Mw

/-! MwO: keyword arguments behind positional ones; keyword-only parameters with defaults. -/
namespace Mw
open PySem PySem.Spec L2
variable [Tb]
section
variable {c : CxD} {B : Bs} {e a b : Expr} {es : List Expr} {sl sl1 sl2 : List Sl} {p q : Bool} {k : Kd} {ks ks' : List Kd} {pos p1 : Pos} {α : Type} {pre : α → Prop} {args : α → List Sl} {res : α → Kd} {x : Str} {st : Stmt} {ps nms : List Str} {lv n : Nat} {kws : List Keyword} {ix : List Nat} {P : Program} {w : World} {K : PySem.W.Frag} {mg : Str → Option Value} {base : Heap}
theorem ev_callPKP (v : α) (F : DefOk P w K mg base x st ps lv (Prm K mg (Pure pre args res))) (kb : KwOk x st ps nms n ix) (ha : AV c B (e :: es) sl p ks sl1) (hkv : KV c B kws sl1 q ks' sl2) (hcs : ArgP (pick (ks ++ ks') ix) (args v)) (hp : pre v) (hk : okK (res v) = true := by rfl) (hc : DefK P w K mg base x st ps lv (Prm K mg (Pure pre args res)) → c.DefK x st ps lv (Prm c.K c.mg (Pure pre args res)) := by exact fun h => h) (hlv : lv ≤ c.lv := by exact Nat.le_of_ble_eq_true rfl) (hg : c.sc.names.lookup x = some .globalImplicit := by rfl)
    (hla : ks.length = (e :: es).length := by rfl) (hn : (e :: es).length = n := by rfl) (hlk : ks'.length = kws.length := by rfl) (hln : kws.length = nms.length := by rfl) (hfm : (q || ks.all Kd.firm) = true := by rfl) (hall : ∀ env, (backToKw pos (keywordEach kws env)).all (·.1.isSome) = true := by intro _; rfl) (hks : ∀ env, (backToKw pos (keywordEach kws env)).filterMap (·.1) = nms := by intro _; rfl)
    (hdb : (x == ("__debug__" : Str)) = false := by decide) (he : ∀ env, starEach (e :: es) env = (false, eval e env) :: starEach es env := by intro env; rfl) (hpl : ∀ env, ((backTo pos (starEach (e :: es) env)).any (·.1) || (backToKw pos (keywordEach kws env)).any (·.1.isNone)) = false := by intro _; rfl) : EV c B (.Call (.Name x p1) (e :: es) kws pos) sl (p && q) (res v) sl2 :=
  ev_callPK (hc F.toK) kb ha hkv hcs ⟨v, hp, rfl, rfl, rfl⟩ (okK_h hk) hlv hg hla hn hlk hln hfm hall hks hdb he hpl
/-- defs with defaults -/
theorem ev_callPKPD {dvs : List V} (v : α) (F : DefD P w K mg base x st ps lv (Prm K mg (Pure pre args res)) dvs) (kb : KwOk x st ps nms n ix) (ha : AV c B (e :: es) sl p ks sl1) (hkv : KV c B kws sl1 q ks' sl2) (hcs : ArgP (pick (ks ++ ks') ix) (args v)) (hp : pre v) (hk : okK (res v) = true := by rfl) (hc : DefK P w K mg base x st ps lv (Prm K mg (Pure pre args res)) → c.DefK x st ps lv (Prm c.K c.mg (Pure pre args res)) := by exact fun h => h) (hlv : lv ≤ c.lv := by exact Nat.le_of_ble_eq_true rfl) (hg : c.sc.names.lookup x = some .globalImplicit := by rfl)
    (hla : ks.length = (e :: es).length := by rfl) (hn : (e :: es).length = n := by rfl) (hlk : ks'.length = kws.length := by rfl) (hln : kws.length = nms.length := by rfl) (hfm : (q || ks.all Kd.firm) = true := by rfl) (hall : ∀ env, (backToKw pos (keywordEach kws env)).all (·.1.isSome) = true := by intro _; rfl) (hks : ∀ env, (backToKw pos (keywordEach kws env)).filterMap (·.1) = nms := by intro _; rfl)
    (hdb : (x == ("__debug__" : Str)) = false := by decide) (he : ∀ env, starEach (e :: es) env = (false, eval e env) :: starEach es env := by intro env; rfl) (hpl : ∀ env, ((backTo pos (starEach (e :: es) env)).any (·.1) || (backToKw pos (keywordEach kws env)).any (·.1.isNone)) = false := by intro _; rfl) : EV c B (.Call (.Name x p1) (e :: es) kws pos) sl (p && q) (res v) sl2 :=
  ev_callPK (hc F.toK) kb ha hkv hcs ⟨v, hp, rfl, rfl, rfl⟩ (okK_h hk) hlv hg hla hn hlk hln hfm hall hks hdb he hpl
theorem ev_callPkD {dvs : List V} (v : α) (F : DefD P w K mg base x st ps lv (Prm K mg (Pure pre args res)) dvs) (kb : KwOk x st ps nms 0 ix) (ha : KV c B kws sl p ks sl1) (hcs : ArgP (pick ks ix) (args v)) (hp : pre v) (hk : okK (res v) = true := by rfl) (hc : DefK P w K mg base x st ps lv (Prm K mg (Pure pre args res)) → c.DefK x st ps lv (Prm c.K c.mg (Pure pre args res)) := by exact fun h => h) (hlv : lv ≤ c.lv := by exact Nat.le_of_ble_eq_true rfl) (hg : c.sc.names.lookup x = some .globalImplicit := by rfl)
    (hlk : ks.length = kws.length := by rfl) (hln : kws.length = nms.length := by rfl) (hall : ∀ env, (backToKw pos (keywordEach kws env)).all (·.1.isSome) = true := by intro _; rfl) (hks : ∀ env, (backToKw pos (keywordEach kws env)).filterMap (·.1) = nms := by intro _; rfl)
    (hdb : (x == ("__debug__" : Str)) = false := by decide) (hpl : ∀ env, ((backTo pos (starEach [] env)).any (·.1) || (backToKw pos (keywordEach kws env)).any (·.1.isNone)) = false := by intro _; rfl) : EV c B (.Call (.Name x p1) [] kws pos) sl p (res v) sl1 :=
  ev_callK (hc F.toK) kb ha hcs ⟨v, hp, rfl, rfl, rfl⟩ (okK_h hk) hlv hg hlk hln hall hks hdb hpl
/-- defaults that are plain -/
inductive DfK : List V → List Kd → Prop
  | nil : DfK [] []
  | int {i : Int} {vs : List V} {ks : List Kd} (t : DfK vs ks) : DfK (.int i :: vs) (.st (.int i) :: ks)
  | non {vs : List V} {ks : List Kd} (t : DfK vs ks) : DfK (.non :: vs) (.st .none :: ks)
  | bl {i : Bool} {vs : List V} {ks : List Kd} (t : DfK vs ks) : DfK (.bl i :: vs) (.st (.bool i) :: ks)
theorem DfK.ok {S H : Hp} {σ : L2.St} : ∀ {vs : List V} {ks : List Kd}, DfK vs ks → KdsOk K B σ sl S H vs ks
  | _, _, .nil => .nil
  | _, _, .int t => .cons (.int _) t.ok
  | _, _, .non t => .cons .non t.ok
  | _, _, .bl t => .cons (.bl _) t.ok
theorem ev_callPD {dvs : List V} (v : α) (F : DefD P w K mg base x st ps lv (Prm K mg (Pure pre args res)) dvs) (ha : AV c B (e :: es) sl p ks sl1) (hdk : DfK dvs ks') (hcs : ArgP (ks ++ ks') (args v)) (hp : pre v) (hk : okK (res v) = true := by rfl) (hc : DefD P w K mg base x st ps lv (Prm K mg (Pure pre args res)) dvs → DefD c.P c.w c.K c.mg c.base x st ps lv (Prm c.K c.mg (Pure pre args res)) dvs := by exact fun h => h) (hlv : lv ≤ c.lv := by exact Nat.le_of_ble_eq_true rfl) (hg : c.sc.names.lookup x = some .globalImplicit := by rfl)
    (hdb : (x == ("__debug__" : Str)) = false := by decide) (he : ∀ env, starEach (e :: es) env = (false, eval e env) :: starEach es env := by intro env; rfl) (hpl : ∀ env, (backTo pos (starEach es env)).any (·.1) = false := by intro env; rfl) : EV c B (.Call (.Name x p1) (e :: es) [] pos) sl p (res v) sl1 := by
  obtain ⟨f, fd, hm, hF, ⟨ds, hds, hb⟩, G⟩ := (hc F).ex
  obtain ⟨t, ht, hs⟩ := ha
  refine ⟨fun σ H Q => t σ H fun vs H1 => Prm c.K c.mg (Pure pre args res) (vs ++ dvs) H1 Q fun cls d H' => c.W cls d σ H', fun X hX => pe_callGD (by rw [hX.hP, hX.hw, hX.hK, hX.hm, hX.hb]; exact G) (hX.rm.mono hlv) hX.gu hX.tk (hX.g x hg) (by rw [hX.hm]; exact hm) (by rw [hX.hK]; exact hF.kp) (by rw [hX.hK]; exact hb) hds (ht X hX) hdb (he _) (hpl _), fun S H σ I Q fn => ?_⟩
  refine hs S H σ I _ fun vs S1 H1 I1 a1 x1 => ⟨S1, [], args v, .ret (res v), args v, ⟨v, hp, rfl, rfl, rfl⟩, hcs.stt I1 (x1.app hdk.ok), fun u S' H' J hv => ?_⟩
  obtain ⟨I2, a2⟩ := back0 I1 J
  obtain ⟨kd, fr⟩ := kd_back I1 (okK_h hk) (fun _ h => h) hv
  exact fn u S' H' I2 ((a1.trans a2).weak fun h => by rw [h]; rfl) kd (fr.back a1)
end
/-- keyword-only parameters with defaults: how a positional call binds -/
theorem binds_kwd {K : PySem.W.Frag} {x : Str} {st : Stmt} {f D : Addr} {od : Option Addr} {oc doc pm cdv ct : Value} {an : Option Addr} {osl : Array (Option Value)} {ps : List Str} (n : Nat) (kws : List (Str × V)) (lk : K.lookup f = some ⟨oc, od, .func (PySem.W.fnOf x x (defArgs st) (defBody st) (defScope st) .none (.ref D) doc pm an cdv ct), osl⟩)
    (hcd : PySem.W.codeIn K cdv x = true) (hkp : PySem.W.keepIn K (.ref f) = true) (hq : ∀ q ∈ kws, ∃ u, PySem.W.nsIn K D q.1 = some (some u) ∧ RelV q.2 u) (hk : kws ≠ []) (hn : n + kws.length = ps.length)
    (h : ∀ (D : Addr) (doc pm : Value) (an : Option Addr) (cdv ct : Value) (us ks : List Value), us.length = n → ks.length = kws.length →
      KwChain D ((kws.map (·.1)).zip ks) (bindArgs (PySem.W.fnOf x x (defArgs st) (defBody st) (defScope st) .none (.ref D) doc pm an cdv ct) ⟨us, []⟩) (ps.zip (us ++ ks))) : ∃ ds, Vals (kws.map (·.2)) ds ∧ Binds K (PySem.W.fnOf x x (defArgs st) (defBody st) (defScope st) .none (.ref D) doc pm an cdv ct) ps ds := by
  have F : FunD K x x (defArgs st) (defBody st) (defScope st) [] kws f (PySem.W.fnOf x x (defArgs st) (defBody st) (defScope st) .none (.ref D) doc pm an cdv ct) :=
    ⟨⟨oc, od, .none, .ref D, doc, pm, an, cdv, ct, osl, rfl, lk, hcd, .inl ⟨rfl, rfl⟩, .inr ⟨D, rfl, hq⟩⟩, hkp⟩
  exact F.binds0 n hk hn h
end Mw

/-! MwP: more operators: a list from behind, truth values compared. -/
namespace Mw
open PySem PySem.Spec L2
variable [Tb]
section
variable {c : CxD} {B : Bs} {e a b : Expr} {sl sl1 sl2 : List Sl} {p q : Bool} {k1 : Kd} {pos p1 p2 p3 : Pos} {ds : List PyData} {xs : List Int}
theorem ev_rev {n : Nat} (ha : EV c B e sl p k1 sl1) (hl : LsK k1 ds := by first | exact .st | exact .ls | exact .fr) : EV c B (.Subscript e (.Slice none none (some (.UnaryOp .USub (.Constant (.int 1) n p1) p2)) p3) pos) sl p (.fr (.lst ds.reverse)) sl1 := by
  obtain ⟨te, ge, se⟩ := ha
  refine ⟨tRevL c.K te, fun X hX => by have := pe_revL (k := n) (p1 := p1) (p2 := p2) (p3 := p3) (pos := pos) (ge X hX); rw [hX.hK] at this; exact this, fun S H σ I Q fn => ?_⟩
  refine se S H σ I _ fun v S1 H1 I1 a1 x1 f1 => ?_
  obtain ⟨l, vs, rfl, hq, t⟩ := hl.rd I1 x1
  refine ⟨l, vs, rfl, hq, fun m hm => (Mw.fin fn a1 fun h => h).fresh I1 hm ?_⟩
  have go : ∀ {vs : List V} {ds : List PyData}, Trs c.K S1 vs ds → Trs c.K S1 vs.reverse ds.reverse := fun {vs ds} h => by
    induction ds generalizing vs with
    | nil => cases h; exact .nil
    | cons d r ih =>
      cases h with
      | cons h t => rw [List.reverse_cons, List.reverse_cons]; exact (ih t).app (.one h)
  exact go t
theorem ev_revN {n : Nat} (ha : EV c B e sl p k1 sl1) (hl : LsK k1 (nums xs) := by first | exact .st | exact .ls | exact .fr) : EV c B (.Subscript e (.Slice none none (some (.UnaryOp .USub (.Constant (.int 1) n p1) p2)) p3) pos) sl p (.fr (.lst (nums xs.reverse))) sl1 :=
  (ev_rev ha hl).to (by unfold nums; rw [List.map_reverse])
theorem cm_eqB {t u : Bool} (ha : EV c B a sl p (.st (.bool t)) sl1) (hb : EV c B b sl1 q (.st (.bool u)) sl2) : CM c B .Eq a b sl (p && q) (decide (t = u)) sl2 :=
  cm_of (r := rEq) (fun _ _ => op_eq) (nobehind _ (by decide) (by decide)) (fun B σ sl S H x y I hx hy Q q => by
    cases tr_bl hx
    cases tr_bl hy
    refine ⟨rfl, q.st I ?_⟩
    have e : decide (V.bl t = V.bl u) = decide (t = u) := by
      by_cases h : t = u
      · rw [h]; simp
      · rw [decide_eq_false h, decide_eq_false fun z => h (V.bl.inj z)]
    rw [e]
    exact .bl _) ha hb (by simp [Kd.firm])
theorem cm_neB {t u : Bool} (ha : EV c B a sl p (.st (.bool t)) sl1) (hb : EV c B b sl1 q (.st (.bool u)) sl2) : CM c B .NotEq a b sl (p && q) (!decide (t = u)) sl2 :=
  cm_of (r := rNe) (fun _ _ => op_ne) (nobehind _ (by decide) (by decide)) (fun B σ sl S H x y I hx hy Q q => by
    cases tr_bl hx
    cases tr_bl hy
    refine ⟨rfl, q.st I ?_⟩
    have e : decide (V.bl t = V.bl u) = decide (t = u) := by
      by_cases h : t = u
      · rw [h]; simp
      · rw [decide_eq_false h, decide_eq_false fun z => h (V.bl.inj z)]
    rw [e]
    exact .bl _) ha hb (by simp [Kd.firm])
end
/-- name = [..], the name a cell -/
theorem sw_cell {c : CxD} {elt : Expr} {gs : List Comprehension} {scope : Scope} {pos py : Pos} {y : Str} {l : Nat} (hy : c.sc.names.lookup y = some .cell) : ∀ X, InCx c X → swapsWith (.ListComp elt gs scope pos) (some (.Name y py)) l X.env = pure false := fun X hX => by
  have ky : X.env.kindOf y = some .cell := (hX.fn y hy).1
  unfold swapsWith
  simp only [ky]
  show pure (_ && false && _ && _) = _
  rw [Bool.and_false]
  rfl
/-! ## trees that may be compared -/
structure Ce (b : Nat) (d : PyData) : Prop where
  lay : d.canLay0 = true
  nd : d.hasDict = false
  dp : d.depth ≤ b
theorem Ce.mono {b b' : Nat} {d : PyData} (h : Ce b d) (hb : b ≤ b') : Ce b' d := ⟨h.lay, h.nd, Nat.le_trans h.dp hb⟩
theorem Ce.none : Ce 0 .none := ⟨rfl, rfl, Nat.le_refl _⟩
theorem Ce.bool {t : Bool} : Ce 0 (.bool t) := ⟨rfl, rfl, Nat.le_refl _⟩
theorem Ce.int {i : Int} : Ce 0 (.int i) := ⟨rfl, rfl, Nat.le_refl _⟩
theorem ce_all {b : Nat} : ∀ {ds : List PyData}, (∀ d ∈ ds, Ce b d) → PyData.canLayAll0 ds = true ∧ PyData.hasDictAll ds = false ∧ PyData.depthAll ds ≤ b
  | [], _ => ⟨rfl, rfl, Nat.zero_le _⟩
  | d :: r, h => by
    have h1 := h d List.mem_cons_self
    obtain ⟨a1, a2, a3⟩ := ce_all (ds := r) fun x hx => h x (List.mem_cons_of_mem _ hx)
    refine ⟨?_, ?_, ?_⟩
    · show (PyData.canLay0 d && PyData.canLayAll0 r) = true; rw [h1.lay, a1]; rfl
    · show (PyData.hasDict d || PyData.hasDictAll r) = false; rw [h1.nd, a2]; rfl
    · show max (PyData.depth d) (PyData.depthAll r) ≤ b; exact Nat.max_le.mpr ⟨h1.dp, a3⟩
theorem Ce.list {b : Nat} {ds : List PyData} (h : ∀ d ∈ ds, Ce b d) : Ce (b + 1) (.list ds) := by
  obtain ⟨a1, a2, a3⟩ := ce_all h
  exact ⟨a1, a2, by show PyData.depthAll ds + 1 ≤ b + 1; omega⟩
theorem Ce.tuple {b : Nat} {ds : List PyData} (h : ∀ d ∈ ds, Ce b d) : Ce (b + 1) (.tuple ds) := by
  obtain ⟨a1, a2, a3⟩ := ce_all h
  exact ⟨a1, a2, by show PyData.depthAll ds + 1 ≤ b + 1; omega⟩
theorem Ce.can {b : Nat} {d : PyData} (h : Ce b d) (hb : b ≤ 64 := by decide) : canEq d := ⟨Bool.and_eq_true_iff.mpr ⟨h.lay, decide_eq_true (Nat.le_trans h.dp hb)⟩, h.nd⟩
theorem Ce.self {b : Nat} {d : PyData} (h : Ce b d) : PyData.eqv d d = true := SeqAt.eqv_refl d h.lay
theorem Ce.nums (xs : List Int) : Ce 1 (.list (Mw.nums xs)) := Ce.list fun d hd => by
  obtain ⟨x, _, rfl⟩ := nums_mem hd
  exact Ce.int
end Mw

/-! MwQ: list(enumerate(xs)). -/
namespace Mw
open PySem PySem.Spec L2
/-- an enumerate object, whatever became of the tuple that it gave last -/
def EnK (h : Heap) (e it : Addr) (i : Int) : Prop := ∃ (f0 old : Value) (f1 : Bool), h.get? e = some { cls := .type "enumerate", dict := none, data := .fields #[f0, .bool f1, .ref it, rawInt i, .none, old], slots := #[] } ∧ (f0 = .none ∧ f1 = false ∨ ∃ T o, f0 = rawInt (T : Nat) ∧ h.get? T = some o)
theorem EnK.ty {s : Shared} {e it : Addr} {i : Int} (h : EnK s.heap e it i) : s.TypeIs (.ref e) "enumerate" := by
  obtain ⟨f0, old, f1, he, _⟩ := h
  exact ⟨_, he, rfl⟩
theorem EnK.keep {h h' : Heap} {e it : Addr} {i : Int} (x : EnK h e it i) (k : ∀ b o, h.get? b = some o → ∃ o', h'.get? b = some o') (ke : h'.get? e = h.get? e) : EnK h' e it i := by
  obtain ⟨f0, old, f1, he, hf⟩ := x
  refine ⟨f0, old, f1, ke.trans he, ?_⟩
  rcases hf with h | ⟨T, o, h1, h2⟩
  · exact .inl h
  · obtain ⟨o', h3⟩ := k T o h2
    exact .inr ⟨T, o', h1, h3⟩
section
variable {prog : Program} {w : World} {A : Around} {E : Value → Shared → Prop} {s : Shared}
theorem wpAny_alive {M : Model} {a : Addr} {Q : Option Obj → Shared → Prop} (h : Q (s.heap.get? a) s) : wpAny M A (loadIfAlive a) Q E s := fun Γ p hΓ => by
  unfold loadIfAlive
  rw [Sem.wp_loadIfAlive]
  exact wpAny_pure h Γ p hΓ
theorem enk_next {e it l : Addr} {i : Nat} {items : Array Value} {x : Value} {Q : Option Value → Shared → Prop} (he : EnK s.heap e it i) (hit : s.heap.IsListIter it l i) (hl : s.heap.IsList l items) (hx : items[i]? = some x) (hne : e ≠ it)
    (hQ : ∀ h', EnK h' e it ((i : Int) + 1) → h'.IsListIter it l (i + 1) → h'.get? s.heap.objs.size = some { cls := .type "tuple", data := .seq #[.int i s.toks, x] } → h'.objs.size = s.heap.objs.size + 1 →
      (∀ b o, b ≠ e → b ≠ it → s.heap.get? b = some o → h'.get? b = some o) → Q (some (.ref s.heap.objs.size)) { s with heap := h', toks := s.toks + 1 }) :
    wpAny (model prog w) A (pyNext (.ref e)) Q E s := by
  obtain ⟨f0, old, f1, hef, hf⟩ := he
  rcases hf with ⟨rfl, rfl⟩ | ⟨T, oT, rfl, hT⟩
  · refine wpAny_pyNext_enum_item (old := old) hef hit hl hx hne fun h' a b c d k => ?_
    exact hQ h' ⟨_, _, false, a, .inr ⟨_, _, rfl, c⟩⟩ b c d k
  · have hTy : s.TypeIs (.ref e) "enumerate" := ⟨_, hef, rfl⟩
    unfold pyNext
    refine wpAny_bind (wpAny_attempt (wpAny_callSpecial?_slot (name := Str.ofString "__next__") hTy PySem.F.slot_enumerate_next (wpAny_call_entry PySem.F.slot_enumerate_next hTy PySem.F.entry_enumerate_next ?_ (PySem.F.args_enumerate_next_1 _))))
    obtain ⟨hp, g, d, tk, os⟩ := s
    have hTl : T < hp.objs.size := Heap.lt_size hT
    show wpAny _ _ (field (.ref e) 2 >>= _) _ _ _
    refine wpAny_bind (wpAny_field hef rfl (x := .ref it) rfl ?_)
    refine wpAny_bind (wpAny_nextOf_list_item hit hl hx fun h1 hit1 hs1 => ?_)
    have hs1' : Heap.SameBut it hp h1 := hs1
    have e1 := (hs1'.2 e hne).trans hef
    show wpAny _ _ (field (.ref e) 3 >>= _) _ _ ⟨h1, g, d, tk, os⟩
    refine wpAny_bind (wpAny_field e1 rfl (x := rawInt i) rfl ?_)
    show wpAny _ _ (field (.ref e) 4 >>= _) _ _ ⟨h1, g, d, tk, os⟩
    refine wpAny_bind (wpAny_field e1 rfl (x := .none) rfl ?_)
    show wpAny _ _ (mkInt i >>= _) _ _ ⟨h1, g, d, tk, os⟩
    refine wpAny_bind (wpAny_mkInt ?_)
    show wpAny _ _ (setField (.ref e) 3 (rawInt ((i : Int) + 1)) >>= _) _ _ ⟨h1, g, d, tk + 1, os⟩
    refine wpAny_bind (wpAny_setField_rec e1 (by simp) fun h2 e2 hs2 => ?_)
    have hs2' : Heap.SameBut e h1 h2 := hs2
    show wpAny _ _ (setField (.ref e) 4 .none >>= _) _ _ ⟨h2, g, d, tk + 1, os⟩
    refine wpAny_bind (wpAny_setField_rec e2 (by simp) fun h3 e3 hs3 => ?_)
    have hs3' : Heap.SameBut e h2 h3 := hs3
    show wpAny _ _ (newTuple [.int i tk, x] >>= _) _ _ ⟨h3, g, d, tk + 1, os⟩
    refine wpAny_bind (wpAny_newTuple ?_)
    have hz3 : h3.objs.size = hp.objs.size := by rw [hs3'.1, hs2'.1, hs1'.1]
    have e4 := Heap.get?_push_of_some { cls := .type "tuple", data := .seq #[.int i tk, x] } e3
    have t4 : (h3.push { cls := .type "tuple", data := .seq #[.int i tk, x] }).get? hp.objs.size = some { cls := .type "tuple", data := .seq #[.int i tk, x] } := by rw [← hz3]; exact Heap.get?_push_size _ rfl
    have z4 : (h3.push { cls := .type "tuple", data := .seq #[.int i tk, x] }).objs.size = hp.objs.size + 1 := by rw [Heap.size_push, hz3]
    have k4 : ∀ b o, b ≠ e → b ≠ it → hp.get? b = some o → (h3.push { cls := .type "tuple", data := .seq #[.int i tk, x] }).get? b = some o := fun b o h5 h6 hb =>
      Heap.get?_push_of_some _ (hs3'.extBut b o h5 (hs2'.extBut b o h5 (hs1'.extBut b o h6 hb)))
    have it4 : (h3.push { cls := .type "tuple", data := .seq #[.int i tk, x] }).IsListIter it l (i + 1) := by
      obtain ⟨o, ho, r⟩ := (hit1.extBut hs2'.extBut (Ne.symm hne)).extBut hs3'.extBut (Ne.symm hne)
      exact ⟨o, Heap.get?_push_of_some _ ho, r⟩
    have el : e < hp.objs.size := Heap.lt_size hef
    rw [hz3]
    generalize h3.push { cls := .type "tuple", data := .seq #[.int i tk, x] } = h4 at e4 t4 z4 k4 it4
    show wpAny _ _ (Builtin.SmallTypes.ownedTupleIsFree (.ref e) >>= _) _ _ ⟨h4, g, d, tk + 1, os⟩
    have T4 : ∃ o4, h4.get? T = some o4 := by
      by_cases h5 : T = e
      · rw [h5]; exact ⟨_, e4⟩
      · by_cases h6 : T = it
        · obtain ⟨o, ho, _⟩ := it4; rw [h6]; exact ⟨o, ho⟩
        · exact ⟨_, k4 T _ h5 h6 hT⟩
    obtain ⟨o4, T4⟩ := T4
    refine wpAny_bind ?_
    unfold Builtin.SmallTypes.ownedTupleIsFree
    refine wpAny_bind (wpAny_field e4 rfl (x := rawInt (T : Nat)) rfl ?_)
    show wpAny _ _ (loadIfAlive ((T : Nat) : Int).toNat >>= _) _ _ ⟨h4, g, d, tk + 1, os⟩
    refine wpAny_bind (wpAny_alive ?_)
    rw [Int.toNat_natCast]
    show wpAny _ _ (if (h4.get? T).isNone then _ else _) _ _ _
    rw [T4]
    show wpAny _ _ (field (.ref e) 1 >>= _) _ _ ⟨h4, g, d, tk + 1, os⟩
    refine wpAny_bind (wpAny_field e4 rfl (x := .bool f1) rfl ?_)
    cases f1 with
    | true =>
      show wpAny _ _ (pure false) _ _ _
      refine wpAny_pure ?_
      show wpAny _ _ (ret _) _ _ _
      exact wpAny_pure ⟨_, rfl, wpAny_pure (hQ h4 ⟨_, _, true, e4, .inr ⟨T, o4, rfl, T4⟩⟩ it4 t4 z4 k4)⟩
    | false =>
      show wpAny _ _ (setField (.ref e) 1 (.bool true) >>= fun _ => pure false) _ _ _
      refine wpAny_bind (wpAny_setField_rec e4 (by simp) fun h5 e5 hs5 => ?_)
      have hs5' : Heap.SameBut e h4 h5 := hs5
      refine wpAny_pure ?_
      show wpAny _ _ (ret _) _ _ _
      refine wpAny_pure ⟨_, rfl, wpAny_pure (hQ h5 ⟨_, _, true, e5, ?_⟩ (it4.extBut hs5'.extBut (Ne.symm hne)) (hs5'.extBut _ _ (Nat.ne_of_gt el) t4) (by rw [hs5'.1, z4]) fun b o q1 q2 hb => hs5'.extBut b o q1 (k4 b o q1 q2 hb))⟩
      by_cases h6 : T = e
      · rw [h6]; exact .inr ⟨e, _, rfl, e5⟩
      · exact .inr ⟨T, o4, rfl, hs5'.extBut _ _ h6 T4⟩
theorem enk_end {e it l : Addr} {i : Nat} {items : Array Value} {Q : Option Value → Shared → Prop} (hh : A.handled = none) (he : EnK s.heap e it i) (hit : s.heap.IsListIter it l i) (hl : s.heap.IsList l items) (hx : items[i]? = none)
    (hQ : ∀ h', Heap.ExtBut it s.heap h' → Q none { s with heap := h' }) : wpAny (model prog w) A (pyNext (.ref e)) Q E s := by
  have hTy := he.ty
  obtain ⟨f0, old, f1, hef, _⟩ := he
  unfold pyNext
  refine wpAny_bind (wpAny_attempt (wpAny_callSpecial?_slot (name := Str.ofString "__next__") hTy PySem.F.slot_enumerate_next (wpAny_call_entry PySem.F.slot_enumerate_next hTy PySem.F.entry_enumerate_next ?_ (PySem.F.args_enumerate_next_1 _))))
  show wpAny _ _ (field (.ref e) 2 >>= _) _ _ _
  refine wpAny_bind (wpAny_field hef rfl (x := .ref it) rfl ?_)
  refine wpAny_bind (wpAny_nextOf_list_end hh hit hl hx fun h1 x k1 hx1 => ?_)
  obtain ⟨o, ho, hc⟩ := hx1
  exact wpAny_bind (wpAny_isInstance (T := "StopIteration") (b := true) ⟨o, ho, hc⟩ isSubtype_stop (wpAny_pure (hQ _ k1)))
theorem enum_no_len : typeLookup (.type "enumerate") "__len__" = pure none := by rw [typeLookup_type, builtinLookup_eq_fast]; kernel_rfl
theorem enum_no_hint : typeLookup (.type "enumerate") "__length_hint__" = pure none := by rw [typeLookup_type, builtinLookup_eq_fast]; kernel_rfl
end
/-- what a list has taken in of what enumerate gives -/
structure LsF (h h0 : Heap) (N0 : Nat) (S e it : Addr) (items : Array Value) (i : Nat) (acc : Array Value) (c : Nat) : Prop where
  hS : h.get? S = some { cls := .type "list", dict := none, data := .seq acc c, slots := #[] }
  sz : acc.size = i
  el : ∀ (j : Nat) (v : Value), acc[j]? = some v → ∃ (T : Nat) (t : Tok) (x : Value), v = .ref T ∧ N0 ≤ T ∧ items[j]? = some x ∧ h.get? T = some { cls := .type "tuple", data := .seq #[.int (j : Nat) t, x] }
  inj : ∀ (j k : Nat) (v : Value), acc[j]? = some v → acc[k]? = some v → j = k
  old : ∀ (b : Nat) o, b < N0 → b ≠ S → b ≠ e → b ≠ it → h0.get? b = some o → h.get? b = some o
structure LsE (h h0 : Heap) (N0 : Nat) (S e it l : Addr) (items : Array Value) (i : Nat) (acc : Array Value) (c : Nat) : Prop extends LsF h h0 N0 S e it items i acc c where
  en : EnK h e it i
  hit : h.IsListIter it l i
  hl : h.IsList l items
  big : N0 ≤ h.objs.size
section
variable {prog : Program} {w : World} {A : Around} {R : Result → Shared → Prop}
theorem enum_loop (hh : A.handled = none) {h0 : Heap} {N0 : Nat} {S e it l : Nat} {items : Array Value} (hsz : items.size ≤ sizeLine) (d1 : S < N0) (d2 : e < N0) (d3 : it < N0) (d4 : l < N0) (n1 : S ≠ e) (n2 : S ≠ it) (n3 : S ≠ l) (n4 : e ≠ it) (n5 : e ≠ l) (n6 : it ≠ l) (res : Value) :
    ∀ (k i : Nat) (s : Shared) (acc : Array Value) (c : Nat), items.size - i = k → i ≤ items.size → LsE s.heap h0 N0 S e it l items i acc c →
      (∀ h' tk acc' c', LsF h' h0 N0 S e it items items.size acc' c' → R (.ok (.ret res)) { s with heap := h', toks := tk }) →
      codeAny (model prog w) A (.builtin "list.extend.loop" ⟨[.ref S, .ref e, res], []⟩) R s := by
  intro k
  induction k with
  | zero =>
    intro i s acc c hk hi L hR
    have hin : i = items.size := by omega
    subst hin
    refine codeAny_builtin PySem.F.entry_extend_loop ?_
    rw [Around.under_plainId PySem.F.plain_extend_loop _]
    show wpAny _ A.in1 (pyNext (.ref e) >>= _) _ _ s
    refine wpAny_bind (enk_end (show A.in1.handled = none from hh) L.en L.hit L.hl (Array.getElem?_eq_none (Nat.le_refl _)) fun h' x => ?_)
    have kp : ∀ (b : Nat) o, b ≠ it → s.heap.get? b = some o → h'.get? b = some o := fun b o hb q => x b o hb q
    refine wpAny_pure (hR h' _ acc c ⟨kp S _ n2 L.hS, L.sz, fun j v hj => ?_, L.inj, fun b o q1 q2 q3 q4 q5 => kp b o q4 (L.old b o q1 q2 q3 q4 q5)⟩)
    obtain ⟨T, t, y, q1, q2, q3, q4⟩ := L.el j v hj
    exact ⟨T, t, y, q1, q2, q3, kp T _ (by omega) q4⟩
  | succ k ih =>
    intro i s acc c hk hi L hR
    have hlt : i < items.size := by omega
    refine codeAny_builtin PySem.F.entry_extend_loop ?_
    rw [Around.under_plainId PySem.F.plain_extend_loop _]
    show wpAny _ A.in1 (pyNext (.ref e) >>= _) _ _ s
    refine wpAny_bind (enk_next L.en L.hit L.hl (Array.getElem?_eq_getElem hlt) n4 fun h' q1 q2 q3 q4 q5 => ?_)
    have hS' := q5 S _ n1 n2 L.hS
    show wpAny _ A.in1 (updateSeq S (·.push (.ref s.heap.objs.size)) >>= _) _ _ _
    refine wpAny_bind ?_
    have kp : ∀ (b : Nat) o, b ≠ S → h'.get? b = some o → (h'.update S (Obj.mapSeq (·.push (.ref s.heap.objs.size)))).get? b = some o := fun b o hb q => (Heap.get?_update_other _ _ (Ne.symm hb)).trans q
    have hbig := L.big
    have nS : s.heap.objs.size ≠ S := by omega
    refine wpAny_updateSeq hS' rfl (wpAny_pure ⟨plainId_quiet PySem.F.plain_extend_loop _, ih (i + 1) _ (acc.push (.ref s.heap.objs.size)) _ (by omega) hlt ⟨⟨Heap.get?_update_self _ hS' rfl, by rw [Array.size_push, L.sz], fun j v hj => ?_, fun j m v h1 h2 => ?_, fun b o z1 z2 z3 z4 z5 => kp b o z2 (q5 b o z3 z4 (L.old b o z1 z2 z3 z4 z5))⟩, ?_, q2.at fun o q => kp it o (Ne.symm n2) q, ?_, ?_⟩ fun h2 tk acc2 c2 L2 => hR h2 tk acc2 c2 L2⟩)
      (by rw [L.sz]; omega) (by show (acc.push _).size ≤ sizeLine + 1; rw [Array.size_push, L.sz]; omega)
    · rw [Array.getElem?_push] at hj
      split at hj
      · rename_i hj2
        cases hj
        rw [L.sz] at hj2
        subst hj2
        exact ⟨s.heap.objs.size, s.toks, _, rfl, hbig, Array.getElem?_eq_getElem hlt, kp _ _ nS q3⟩
      · obtain ⟨T, t, y, w1, w2, w3, w4⟩ := L.el j v hj
        have u1 : T ≠ e := by omega
        have u2 : T ≠ it := by omega
        exact ⟨T, t, y, w1, w2, w3, kp T _ (by omega) (q5 T _ u1 u2 w4)⟩
    · have old : ∀ (n : Nat), acc[n]? ≠ some (.ref s.heap.objs.size) := fun n hn => by
        obtain ⟨T, t, y, w1, w2, w3, w4⟩ := L.el n _ hn
        cases w1
        exact Nat.lt_irrefl _ (Heap.lt_size w4)
      rw [Array.getElem?_push] at h1 h2
      split at h1
      · split at h2
        · rename_i a b; rw [a, b]
        · cases h1; exact absurd h2 (old m)
      · split at h2
        · cases h2; exact absurd h1 (old j)
        · exact L.inj j m v h1 h2
    · refine q1.keep (fun b o q => ?_) (Heap.get?_update_other _ _ n1)
      by_cases hb : b = S
      · subst hb; exact ⟨_, Heap.get?_update_self _ hS' rfl⟩
      · exact ⟨o, kp b o hb q⟩
    · exact L.hl.at fun o q => kp l o (Ne.symm n3) (q5 l o (Ne.symm n5) (Ne.symm n6) q)
    · show N0 ≤ (h'.update S _).objs.size
      rw [Heap.size_update, q4]; omega
theorem enum_extend {s : Shared} (hh : A.handled = none) {S e it l : Nat} {items : Array Value} (hsz : items.size ≤ sizeLine) (hS : s.heap.get? S = some { cls := .type "list", dict := none, data := .seq #[] 0, slots := #[] }) (he : IsEnum s.heap e it 0 .none) (hit : s.heap.IsListIter it l 0) (hl : s.heap.IsList l items) (n1 : S ≠ e) (n2 : S ≠ it) (n3 : S ≠ l) (n4 : e ≠ it) (n5 : e ≠ l) (n6 : it ≠ l) (res : Value)
    (hR : ∀ h' tk acc' c', LsF h' s.heap s.heap.objs.size S e it items items.size acc' c' → R (.ok (.ret res)) { s with heap := h', toks := tk }) :
    wpAny (model prog w) A.in1 (Builtin.List.listExtendWith (.ref S) (.ref e) res) (fun fin s' => match fin with | .done f => R (.ok f) s' | .again c' => c'.quiet = true ∧ codeAny (model prog w) A c' R s') (fun e s' => R (.error e) s') s := by
  have ty : s.TypeIs (.ref e) "enumerate" := ⟨_, he, rfl⟩
  unfold Builtin.List.listExtendWith
  refine wpAny_bind (wpAny_typeOf ty ?_)
  have g1 : Builtin.List.listSameRef (.ref S) (.ref e) = false := by simp [Builtin.List.listSameRef, n1]
  have g2 : (Value.type "enumerate" == Value.type "list") = false := by decide
  have g3 : (Value.type "enumerate" == Value.type "tuple") = false := by decide
  simp only [g1, g2, g3, Bool.or_false, Bool.false_eq_true, if_false]
  refine wpAny_bind (wpAny_pyIter_enum he ?_)
  refine wpAny_bind (wpAny_holding ?_)
  unfold Builtin.List.listLengthHint
  refine wpAny_bind (wpAny_specialOf ty enum_no_len ?_)
  show wpAny _ A.in1 (specialOf (Value.ref e) (Str.ofString "__length_hint__") >>= _) _ _ _
  refine wpAny_bind (wpAny_specialOf ty enum_no_hint ?_)
  refine wpAny_pure ?_
  show wpAny _ A.in1 (rule "list.extend.makes-room" >>= fun _ => Builtin.List.listTouch (.ref S) >>= fun _ => again (.builtin "list.extend.loop" ⟨[.ref S, .ref e, res], []⟩)) _ _ _
  refine wpAny_bind (wpAny_rule ?_)
  refine wpAny_bind ?_
  show wpAny _ A.in1 (updateSeq S (·.push .none) >>= fun _ => updateSeq S (·.pop)) _ _ _
  refine wpAny_bind (wpAny_updateSeq hS rfl ?_)
  have s2 := Heap.get?_update_self (Obj.mapSeq (·.push Value.none)) hS rfl
  refine wpAny_updateSeq (hz := by seq_fits) s2 rfl ?_
  have s3 := Heap.get?_update_self (Obj.mapSeq (·.pop)) s2 rfl
  have ot : ∀ (b : Nat) o, b ≠ S → s.heap.get? b = some o → ((s.heap.update S (Obj.mapSeq (·.push Value.none))).update S (Obj.mapSeq (·.pop))).get? b = some o := fun b o hb q => (Heap.get?_update_other _ _ (Ne.symm hb)).trans ((Heap.get?_update_other _ _ (Ne.symm hb)).trans q)
  refine wpAny_pure ⟨plainId_quiet PySem.F.plain_extend_loop _, enum_loop hh hsz (Heap.lt_size hS) (Heap.lt_size he) (by obtain ⟨o, ho, _⟩ := hit; exact Heap.lt_size ho) (by obtain ⟨o, ho, _⟩ := hl; exact Heap.lt_size ho) n1 n2 n3 n4 n5 n6 res items.size 0 _ #[] _ rfl (Nat.zero_le _) ⟨⟨s3, rfl, fun j v hj => by simp at hj, fun j k v hj => by simp at hj, fun b o z1 z2 z3 z4 z5 => ot b o z2 z5⟩, ⟨_, _, false, ot e _ (Ne.symm n1) he, .inl ⟨rfl, rfl⟩⟩, hit.at fun o q => ot it o (Ne.symm n2) q, hl.at fun o q => ot l o (Ne.symm n3) q, ?_⟩ fun h' tk acc' c' L => hR h' tk acc' c' L⟩
  show s.heap.objs.size ≤ ((s.heap.update S _).update S _).objs.size
  rw [Heap.size_update, Heap.size_update]
  exact Nat.le_refl _
end
end Mw

/-! MwR: list(enumerate(xs)), the call and the rule. -/
namespace Mw
open PySem PySem.Spec L2
section
variable {prog : Program} {w : World} {A : Around} {E : Value → Shared → Prop} {s : Shared}
theorem call_list_enum {Q : Value → Shared → Prop} {e it l : Nat} {items : Array Value} (hh : A.handled = none) (hsz : items.size ≤ sizeLine) (he : IsEnum s.heap e it 0 .none) (hit : s.heap.IsListIter it l 0) (hl : s.heap.IsList l items) (n4 : e ≠ it) (n5 : e ≠ l) (n6 : it ≠ l)
    (hQ : ∀ h' tk acc c', (∀ (b : Nat) o, b ≠ e → b ≠ it → s.heap.get? b = some o → h'.get? b = some o) → h'.get? s.heap.objs.size = some { cls := .type "list", dict := none, data := .seq acc c', slots := #[] } → acc.size = items.size →
      (∀ (j : Nat) (v : Value), acc[j]? = some v → ∃ (T : Nat) (t : Tok) (x : Value), v = .ref T ∧ s.heap.objs.size < T ∧ items[j]? = some x ∧ h'.get? T = some { cls := .type "tuple", data := .seq #[.int (j : Nat) t, x] }) →
      (∀ (j k : Nat) (v : Value), acc[j]? = some v → acc[k]? = some v → j = k) → Q (.ref s.heap.objs.size) { s with heap := h', toks := tk }) :
    wpAny (model prog w) A (call (.type "list") [.ref e]) Q E s := by
  have le := Heap.lt_size he
  have li : it < s.heap.objs.size := by obtain ⟨o, ho, _⟩ := hit; exact Heap.lt_size ho
  have ll : l < s.heap.objs.size := by obtain ⟨o, ho, _⟩ := hl; exact Heap.lt_size ho
  refine callType_codes (Q₁ := fun obj s₁ => obj = .ref s.heap.objs.size ∧ s₁ = { s with heap := s.heap.push { cls := .type "list", data := .seq #[] } }) PySem.F.called_list (PySem.F.typeCall_list_1 _) PySem.F.entry_list_init (code_list_new _ ⟨rfl, rfl⟩) fun obj s₁ h₁ => ?_
  obtain ⟨rfl, rfl⟩ := h₁
  have hS : (s.heap.push { cls := .type "list", data := .seq #[] }).get? s.heap.objs.size = some { cls := .type "list", data := .seq #[] } := Heap.get?_push_size _ rfl
  refine ⟨⟨_, hS, rfl⟩, PySem.F.args_list_init_2 _ _, ?_⟩
  show wpAny _ _ (do let old ← Builtin.List.listItems (.ref s.heap.objs.size); Builtin.List.listUpdate (.ref s.heap.objs.size) (fun _ => #[]); letGo old.toList.reverse; Builtin.List.listExtendWith (.ref s.heap.objs.size) (.ref e) .none) _ _ _
  refine wpAny_bind ?_
  unfold Builtin.List.listItems
  refine wpAny_bind (wpAny_seqItems hS rfl (wpAny_pure ?_))
  show wpAny _ _ (updateSeq s.heap.objs.size (fun _ => #[]) >>= fun _ => letGo (#[] : Array Value).toList.reverse >>= fun _ => Builtin.List.listExtendWith (.ref s.heap.objs.size) (.ref e) .none) _ _ _
  refine wpAny_bind (wpAny_updateSeq hS rfl ?_)
  have s2 := Heap.get?_update_self (Obj.mapSeq (fun _ => (#[] : Array Value))) hS rfl
  have ot : ∀ (b : Nat) o, b ≠ s.heap.objs.size → s.heap.get? b = some o → ((s.heap.push { cls := .type "list", data := .seq #[] }).update s.heap.objs.size (Obj.mapSeq (fun _ => (#[] : Array Value)))).get? b = some o :=
    fun b o hb q => (Heap.get?_update_other _ _ (Ne.symm hb)).trans (Heap.get?_push_of_some _ q)
  refine wpAny_bind (wpAny_letGo ?_)
  have u1 : e ≠ s.heap.objs.size := Nat.ne_of_lt le
  have u2 : it ≠ s.heap.objs.size := Nat.ne_of_lt li
  have u3 : l ≠ s.heap.objs.size := Nat.ne_of_lt ll
  refine enum_extend (A := A.in1) hh (S := s.heap.objs.size) (e := e) (it := it) (l := l) hsz s2 (ot e _ u1 he) (hit.at fun o q => ot it o u2 q) (hl.at fun o q => ot l o u3 q) (Ne.symm u1) (Ne.symm u2) (Ne.symm u3) n4 n5 n6 .none fun h' tk acc c' L => ?_
  have sz : ((s.heap.push { cls := .type "list", data := .seq #[] }).update s.heap.objs.size (Obj.mapSeq (fun _ => (#[] : Array Value)))).objs.size = s.heap.objs.size + 1 := by rw [Heap.size_update, Heap.size_push]
  refine ⟨rfl, hQ h' tk acc c' (fun b o h1 h2 q => ?_) L.hS L.sz (fun j v hj => ?_) L.inj⟩
  · have hb : b < s.heap.objs.size := Heap.lt_size q
    exact L.old b o (Nat.lt_of_lt_of_le hb (by rw [sz]; exact Nat.le_succ _)) (Nat.ne_of_lt hb) h1 h2 (ot b o (Nat.ne_of_lt hb) q)
  · obtain ⟨T, t, x, h1, h2, h3, h4⟩ := L.el j v hj
    rw [sz] at h2
    exact ⟨T, t, x, h1, h2, h3, h4⟩
end
/-- the tuples (k, x), (k + 1, y), .. at the places ps -/
def layT (H : Hp) : List Addr → List V → Nat → Hp
  | p :: ps, x :: xs, k => layT (upd H p (.tup [.int (k : Nat), x])) ps xs (k + 1)
  | _, _, _ => H
theorem layT_out {a : Addr} : ∀ {ps : List Addr} {xs : List V} {k : Nat} {H : Hp}, a ∉ ps → layT H ps xs k a = H a
  | [], _, _, _, _ => by unfold layT; rfl
  | p :: ps, [], _, _, _ => by unfold layT; rfl
  | p :: ps, x :: xs, k, H, h => by
    show layT (upd H p _) ps xs (k + 1) a = _
    rw [layT_out fun z => h (List.mem_cons_of_mem _ z), upd_ne fun z => h (by rw [z]; exact List.mem_cons_self)]
theorem layT_in : ∀ {ps : List Addr} {xs : List V} {k : Nat} {H : Hp} {j : Nat} {p : Addr} {x : V}, ps.Nodup → ps[j]? = some p → xs[j]? = some x → layT H ps xs k p = some (.tup [.int ((k + j : Nat) : Int), x])
  | [], _, _, _, _, _, _, _, h, _ => by simp at h
  | q :: ps, [], _, _, _, _, _, _, _, h => by simp at h
  | q :: ps, y :: xs, k, H, 0, p, x, nd, h1, h2 => by
    simp at h1 h2
    subst h1 h2
    show layT (upd H q _) ps xs (k + 1) q = _
    rw [layT_out (List.nodup_cons.mp nd).1, upd_same]
    rfl
  | q :: ps, y :: xs, k, H, j + 1, p, x, nd, h1, h2 => by
    show layT (upd H q _) ps xs (k + 1) p = _
    rw [layT_in (j := j) (List.nodup_cons.mp nd).2 (by simpa using h1) (by simpa using h2)]
    rw [show k + 1 + j = k + (j + 1) by omega]
section
variable {X : Cx} {pins : List (Addr × Obj)} {σ : L2.St} {s : Shared}
theorem lay_all (h2 : Heap) : ∀ (ps : List Addr) (xs : List V) (k : Nat) (H : Hp) (G : Heap) (tk : Nat), Inv X pins σ H { s with heap := G, toks := tk } → (∀ b o, G.get? b = some o → h2.get? b = some o) → (∀ T ∈ ps, G.get? T = none ∧ H T = none) → ps.Nodup → ps.length = xs.length →
    (∀ (j : Nat) (T : Addr) (x : V), ps[j]? = some T → xs[j]? = some x → ∃ u t, RelV x u ∧ h2.get? T = some { cls := .type "tuple", data := .seq #[.int ((k + j : Nat) : Int) t, u] }) →
    ∃ G', Inv X pins σ (layT H ps xs k) { s with heap := G', toks := tk } ∧ (∀ b o, G'.get? b = some o → h2.get? b = some o) ∧ ∀ b, b ∉ ps → G.get? b = none → G'.get? b = none
  | [], xs, k, H, G, tk, I, g1, _, _, _, _ => ⟨G, by unfold layT; exact I, g1, fun _ _ h => h⟩
  | p :: ps, [], k, H, G, tk, I, _, _, _, hl, _ => by simp at hl
  | p :: ps, x :: xs, k, H, G, tk, I, g1, hn, nd, hl, hT => by
    obtain ⟨nd1, nd2⟩ := List.nodup_cons.mp nd
    obtain ⟨np, nH⟩ := hn p List.mem_cons_self
    obtain ⟨G1, r1, r2⟩ := restrict h2 fun b => (G.get? b).isSome || decide (b = p)
    have sub : ∀ b o, G1.get? b = some o → h2.get? b = some o := fun b o e => by
      cases hb : ((G.get? b).isSome || decide (b = p)) with
      | true => rw [r1 b hb] at e; exact e
      | false => rw [r2 b hb] at e; cases e
    have up : ∀ b o, G.get? b = some o → G1.get? b = some o := fun b o e => by
      rw [r1 b (by rw [e]; rfl)]; exact g1 b o e
    obtain ⟨u, t, ru, hp⟩ := hT 0 p x rfl rfl
    have hp1 : G1.get? p = some { cls := .type "tuple", data := .seq #[.int ((k : Nat) : Int) t, u] } := by
      rw [r1 p (by simp)]; exact hp
    have I1 : Inv X pins σ (upd H p (.tup [.int (k : Nat), x])) { s with heap := G1, toks := tk } :=
      I.laidN (t' := tk) up np nH (show ObjOk X.prog X.w _ _ _ (.tup _) from ⟨by simp [sizeLine_eq], [.int ((k : Nat) : Int) t, u], .cons ⟨t, rfl⟩ (.cons ru .nil), _, hp1, rfl, _, rfl⟩)
    obtain ⟨G', a1, a2, a3⟩ := lay_all h2 ps xs (k + 1) _ G1 tk I1 sub (fun T hm => by
      obtain ⟨q1, q2⟩ := hn T (List.mem_cons_of_mem _ hm)
      have ne : T ≠ p := fun z => nd1 (by rw [← z]; exact hm)
      refine ⟨r2 T ?_, by rw [upd_ne ne]; exact q2⟩
      rw [q1]
      simp [ne]) nd2 (by simpa using hl) (fun j T y e1 e2 => by
      obtain ⟨u, t, q1, q2⟩ := hT (j + 1) T y (by simpa using e1) (by simpa using e2)
      exact ⟨u, t, q1, by rw [show k + 1 + j = k + (j + 1) by omega]; exact q2⟩)
    refine ⟨G', a1, a2, fun b hb hg => a3 b (fun z => hb (List.mem_cons_of_mem _ z)) (r2 b ?_)⟩
    rw [hg]
    have ne : b ≠ p := fun z => hb (by rw [z]; exact List.mem_cons_self)
    simp [ne]
end
def tLE (K : PySem.W.Frag) (ta : TA) : TE := fun σ H Q => ta σ H fun vs H1 => ∃ a xs, vs = [V.ref a] ∧ SqL K H1 a xs ∧ ∀ (ps : List Addr) (p : Addr), ps.length = xs.length → (p :: ps).Nodup → (∀ b, b ∈ p :: ps → H1 b = none) → Q (.ref p) (upd (layT H1 ps xs 0) p (.lst (ps.map V.ref)))
theorem pe_listEnum {X : Cx} {a : Expr} {ta : TA} {p1 p2 pos pos2 : Pos} (hc : X.calm = true) (hgl : Gl X "list") (hml : X.mg "list" = none) (hg : Gl X "enumerate") (hm : X.mg "enumerate" = none) (ha : PA X [a] ta) (hs : starEach [a] X.env = [(false, eval a X.env)])
    (na : starEach [.Call (.Name "enumerate" p2) [a] [] pos2] X.env = (false, eval (.Call (.Name "enumerate" p2) [a] [] pos2) X.env) :: starEach [] X.env) :
    PE X (.Call (.Name "list" p1) [.Call (.Name "enumerate" p2) [a] [] pos2] [] pos) (tLE X.K ta) := by
  refine ⟨fun pins s σ H Q I h => ?_⟩
  refine PyProof.Rows.Call_ (ld_blt I hgl hml PyProof.Rows.boot_list (PyProof.Rows.callWith_type1 (PyProof.Rows.args_cons (thn (M := model X.prog X.w) (Q := fun x s' => ∃ (l : Addr) (xs : List V) (s1 : Shared) (H1 : Hp), x = .ref (s1.heap.objs.size + 1) ∧ Inv X pins σ H1 s1 ∧ SqL X.K H1 l xs ∧ (∃ h', s' = { s1 with heap := h' } ∧ IsEnum h' (s1.heap.objs.size + 1) s1.heap.objs.size 0 .none ∧ h'.IsListIter s1.heap.objs.size l 0 ∧ ∀ b o, s1.heap.get? b = some o → h'.get? b = some o) ∧
    ∀ (ps : List Addr) (p : Addr), ps.length = xs.length → (p :: ps).Nodup → (∀ b, b ∈ p :: ps → H1 b = none) → Q (.ref p) (upd (layT H1 ps xs 0) p (.lst (ps.map V.ref)))) ?_ fun x s' hx => PyProof.Rows.args_nil ?_) na) na))
  · refine PyProof.Rows.Call_ (ld_blt I hg hm PyProof.Rows.boot_enumerate (PyProof.Rows.callWith_type1 (thn (ha.run pos2 pins s σ H _ I h) fun us s1 ⟨vs, H1, I1, r1, q1⟩ => ?_) hs rfl))
    obtain ⟨l, xs, ex, hq, q⟩ := q1
    subst ex
    cases r1 with
    | cons r rr =>
      cases rr
      cases r
      obtain ⟨its, rv, pl, hz⟩ := I1.list hq
      exact call_enumerate_list pl.isList fun h' he hit hsz hk => ⟨l, xs, s1, H1, rfl, I1, hq, ⟨h', rfl, he, hit, hk⟩, q⟩
  · obtain ⟨l, xs, s1, H1, rfl, I1, hq, ⟨h', rfl, he, hit, hk⟩, q⟩ := hx
    obtain ⟨its, rv, pl, hz⟩ := I1.list hq
    have hl := pl.isList
    have hl2 : h'.IsList l its.toArray := hl.at fun o e => hk l o e
    have lt : l < s1.heap.objs.size := by obtain ⟨o, ho, _⟩ := hl; exact Heap.lt_size ho
    refine call_list_enum (I1.ok.hd hc) (by rw [List.size_toArray, ← rv.length]; exact hz) he hit hl2 (Nat.succ_ne_self _) (Nat.ne_of_gt (Nat.lt_succ_of_lt lt)) (Nat.ne_of_gt lt) fun h2 tk acc c' old hS sz el inj => ?_
    have hN : s1.heap.objs.size < h'.objs.size := Nat.lt_of_succ_lt (Heap.lt_size he)
    have k12 : ∀ b o, s1.heap.get? b = some o → h2.get? b = some o := fun b o q => by
      have hb : b < s1.heap.objs.size := Heap.lt_size q
      exact old b o (Nat.ne_of_lt (Nat.lt_succ_of_lt hb)) (Nat.ne_of_lt hb) (hk b o q)
    have nil1 : ∀ b : Nat, s1.heap.objs.size ≤ b → s1.heap.get? b = none := fun b hb => by
      cases e : s1.heap.get? b with
      | none => rfl
      | some o => exact absurd (Heap.lt_size e) (Nat.not_lt.mpr hb)
    obtain ⟨ps, hps⟩ : ∃ ps : List Addr, acc.toList = ps.map Value.ref := by
      refine ⟨acc.toList.map fun v => match v with | .ref a => a | _ => 0, ?_⟩
      rw [List.map_map]
      refine List.ext_getElem? fun j => ?_
      rw [List.getElem?_map]
      cases e : acc.toList[j]? with
      | none => rfl
      | some v =>
        obtain ⟨T, t, x, rfl, _⟩ := el j v (by rw [← e, Array.getElem?_toList])
        rfl
    have hpl : ps.length = acc.size := by have := congrArg List.length hps; rw [List.length_map, Array.length_toList] at this; exact this.symm
    have hxl : ps.length = xs.length := by rw [hpl, sz, List.size_toArray, rv.length]
    have at1 : ∀ (j : Nat) (T : Addr), ps[j]? = some T → acc[j]? = some (.ref T) := fun j T e => by
      rw [← Array.getElem?_toList, hps, List.getElem?_map, e]; rfl
    have big : ∀ T, T ∈ ps → h'.objs.size < T := fun T hm => by
      obtain ⟨j, hj, e⟩ := List.getElem_of_mem hm
      obtain ⟨T', t, x, e1, h1, _⟩ := el j _ (at1 j T (by rw [List.getElem?_eq_getElem hj, e]))
      cases e1
      exact h1
    have ndp : ps.Nodup := by
      unfold List.Nodup
      rw [List.pairwise_iff_getElem]
      intro i j hi hj hij e
      have := inj i j _ (at1 i ps[j] (by rw [List.getElem?_eq_getElem hi, e])) (at1 j ps[j] (List.getElem?_eq_getElem hj))
      omega
    obtain ⟨G', J, g2, g3⟩ := lay_all h2 ps xs 0 H1 s1.heap tk (I1.kept (t' := tk) (h' := s1.heap) fun b u q => q) k12 (fun T hm => by
      have := big T hm
      have hT : s1.heap.objs.size ≤ T := Nat.le_of_lt (Nat.lt_trans hN this)
      exact ⟨nil1 T hT, I1.hok.fresh hT⟩) ndp hxl (fun j T x e1 e2 => by
      obtain ⟨u, hu, ru⟩ := rv.get e2
      obtain ⟨T', t, y, q1, q2, q3, q4⟩ := el j _ (at1 j T e1)
      cases q1
      rw [List.getElem?_toArray, hu] at q3
      cases q3
      exact ⟨u, t, ru, by rw [Nat.zero_add]; exact q4⟩)
    have pn : h'.objs.size ∉ ps := fun hm => Nat.lt_irrefl _ (big _ hm)
    have J2 : Inv X pins σ (upd (layT H1 ps xs 0) h'.objs.size (.lst (ps.map V.ref))) { s1 with heap := h2, toks := tk } :=
      J.laidN (t' := tk) g2 (g3 _ pn (nil1 _ (Nat.le_of_lt hN))) (by rw [layT_out pn]; exact I1.hok.fresh (Nat.le_of_lt hN)) (show ObjOk X.prog X.w _ _ _ (.lst _) from ⟨by rw [List.length_map, hxl]; exact hz, acc.toList, c', by
        rw [hps]
        have go : ∀ l : List Addr, Vals (l.map V.ref) (l.map Value.ref) := fun l => by
          induction l with
          | nil => exact .nil
          | cons a r ih => exact .cons rfl ih
        exact go ps, by rw [Array.toArray_toList]; exact hS⟩)
    refine ⟨.ref h'.objs.size, _, J2, rfl, q ps h'.objs.size hxl (List.nodup_cons.mpr ⟨pn, ndp⟩) fun b hb => ?_⟩
    rcases List.mem_cons.mp hb with rfl | hm
    · exact I1.hok.fresh (Nat.le_of_lt hN)
    · exact I1.hok.fresh (Nat.le_of_lt (Nat.lt_trans hN (big b hm)))
end Mw

/-! MwS: list(enumerate(xs)) and list(range(n)) by trees. -/
namespace Mw
open PySem PySem.Spec L2
variable [Tb]
theorem Trs.of_get {K : PySem.W.Frag} {S : Hp} : ∀ {vs : List V} {ds : List PyData}, vs.length = ds.length → (∀ (j : Nat) (v : V) (d : PyData), vs[j]? = some v → ds[j]? = some d → Tr K S v d) → Trs K S vs ds
  | [], [], _, _ => .nil
  | v :: vs, d :: ds, hl, h => .cons (h 0 v d rfl rfl) (Trs.of_get (by simpa using hl) fun j v d e1 e2 => h (j + 1) v d (by simpa using e1) (by simpa using e2))
  | [], _ :: _, hl, _ => by simp at hl
  | _ :: _, [], hl, _ => by simp at hl
section
variable {c : CxD} {B : Bs} {e a b : Expr} {sl sl1 sl2 : List Sl} {p q : Bool} {k1 : Kd} {pos pos2 p1 p2 : Pos} {ds : List PyData}
theorem ev_listEnum (ha : EV c B a sl p k1 sl1) (hml : c.mg "list" = none) (hm : c.mg "enumerate" = none) (hl : LsK k1 ds := by first | exact .st | exact .ls | exact .fr) (hgl : c.sc.names.lookup ("list" : Str) = some .globalImplicit := by rfl) (hg : c.sc.names.lookup ("enumerate" : Str) = some .globalImplicit := by rfl)
    (he : ∀ env, starEach [a] env = [(false, eval a env)] := by intro env; rfl) (na : ∀ env, starEach [.Call (.Name "enumerate" p2) [a] [] pos2] env = (false, eval (.Call (.Name "enumerate" p2) [a] [] pos2) env) :: starEach [] env := by intro env; rfl) :
    EV c B (.Call (.Name "list" p1) [.Call (.Name "enumerate" p2) [a] [] pos2] [] pos) sl p (.fr (.lst (numbered ds))) sl1 := by
  obtain ⟨ta, ga, sa⟩ := ha
  refine ⟨tLE c.K (tCons ta tNil), fun X hX => by have := pe_listEnum (p1 := p1) (p2 := p2) (pos := pos) (pos2 := pos2) hX.calm (hX.g _ hgl) (by rw [hX.hm]; exact hml) (hX.g _ hg) (by rw [hX.hm]; exact hm) (pa_cons (ga X hX) pa_nil (he _)) (he _) (na _); rw [hX.hK] at this; exact this, fun S H σ I Q fn => ?_⟩
  refine sa S H σ I _ fun v S1 H1 I1 a1 x1 f1 => ?_
  obtain ⟨l, xs, rfl, hq, t⟩ := hl.rd I1 x1
  refine ⟨l, xs, rfl, hq, fun ps p hpl nd fresh => ?_⟩
  obtain ⟨np, ndp⟩ := List.nodup_cons.mp nd
  have fH : ∀ b, b ∈ ps → H1 b = none := fun b hb => fresh b (List.mem_cons_of_mem _ hb)
  have hp : H1 p = none := fresh p List.mem_cons_self
  obtain ⟨w1, w2, w3⟩ := I1.notIn hp
  have s1 : Same S1 (layT S1 ps xs 0) := fun b u e => by
    rw [layT_out fun z => by have := fH b z; rw [I1.sh _ _ e] at this; cases this]; exact e
  have h1 : Same H1 (upd (layT H1 ps xs 0) p (.lst (ps.map V.ref))) := fun b u e => by
    rw [upd_ne (ne_of_none e hp), layT_out fun z => by have := fH b z; rw [e] at this; cases this]; exact e
  have inS : ∀ (j : Nat) (T : Addr) (x : V), ps[j]? = some T → xs[j]? = some x → layT S1 ps xs 0 T = some (.tup [.int (j : Nat), x]) ∧ layT H1 ps xs 0 T = some (.tup [.int (j : Nat), x]) := fun j T x e1 e2 => by
    have a1 := layT_in (k := 0) (H := S1) ndp e1 e2
    have a2 := layT_in (k := 0) (H := H1) ndp e1 e2
    rw [Nat.zero_add] at a1 a2
    exact ⟨a1, a2⟩
  have at2 : ∀ T, T ∈ ps → ∃ j x, ps[j]? = some T ∧ xs[j]? = some x := fun T hm => by
    obtain ⟨j, hj, e⟩ := List.getElem_of_mem hm
    exact ⟨j, xs[j]'(by rw [← hpl]; exact hj), by rw [List.getElem?_eq_getElem hj, e], List.getElem?_eq_getElem _⟩
  have sh : Same (layT S1 ps xs 0) (upd (layT H1 ps xs 0) p (.lst (ps.map V.ref))) := fun b u e => by
    by_cases hb : b ∈ ps
    · obtain ⟨j, x, e1, e2⟩ := at2 b hb
      obtain ⟨a1, a2⟩ := inS j b x e1 e2
      rw [a1] at e
      rw [upd_ne (fun z => np (by rw [← z]; exact hb)), a2]
      exact e
    · rw [layT_out hb] at e
      exact h1 _ _ (I1.sh _ _ e)
  have n1 : ∀ (b : Addr) (u : HO), layT S1 ps xs 0 b = some u → S1 b = none → H1 b = none := fun b u e1 e2 => by
    by_cases hb : b ∈ ps
    · exact fH b hb
    · rw [layT_out hb, e2] at e1; cases e1
  have nt : NoT (layT S1 ps xs 0) := fun b q e => by
    by_cases hb : b ∈ ps
    · obtain ⟨j, x, e1, e2⟩ := at2 b hb
      obtain ⟨a1, a2⟩ := inS j b x e1 e2
      rw [a1] at e
      cases e
      trivial
    · rw [layT_out hb] at e; exact I1.snt b q e
  have I2 := I1.grow s1 h1 sh n1 nt
  refine (Mw.fin fn a1 fun h => h) (.ref p) _ _ I2 ⟨s1, n1, fun b u e => ⟨u, h1 _ _ e⟩, fun b u e _ _ => h1 _ _ e, fun _ => same_sam h1, fun _ h => h⟩ ⟨p, rfl, by rw [layT_out np]; exact w1, w2, ⟨_, upd_same, ?_⟩, w3⟩ (fun l' e => by cases e; exact hp)
  refine Trs.of_get (by rw [List.length_map, hpl, numbered_len, t.len]) fun j v d e1 e2 => ?_
  rw [List.getElem?_map] at e1
  obtain ⟨T, hT, rfl⟩ := Option.map_eq_some_iff.mp e1
  have hj : j < ds.length := by have := (List.getElem?_eq_some_iff.mp e2).1; rwa [numbered_len] at this
  have hd := numbered_get (List.getElem?_eq_getElem hj)
  rw [hd] at e2
  cases e2
  obtain ⟨x, hx, tx⟩ := t.get (List.getElem?_eq_getElem hj)
  obtain ⟨a1', _⟩ := inS j T x hT hx
  exact .tup (.inl (.inl a1')) (.cons (.int _) (.cons (tx.mono s1) .nil))
/-- list(range(n)) -/
theorem ev_listRg {n : Int} (ha : EV c B a sl p (.st (.int n)) sl1) (hml : c.mg "list" = none) (hm : c.mg "range" = none) (hn : n ≤ 1000000) (hn0 : -1000000 ≤ n := by omega) (hgl : c.sc.names.lookup ("list" : Str) = some .globalImplicit := by rfl) (hg : c.sc.names.lookup ("range" : Str) = some .globalImplicit := by rfl)
    (he : ∀ env, starEach [a] env = (false, eval a env) :: starEach [] env := by intro env; rfl) (na : ∀ env, starEach [.Call (.Name "range" p2) [a] [] pos2] env = (false, eval (.Call (.Name "range" p2) [a] [] pos2) env) :: starEach [] env := by intro env; rfl) :
    EV c B (.Call (.Name "list" p1) [.Call (.Name "range" p2) [a] [] pos2] [] pos) sl p (.fr (.lst (upI 0 n.toNat))) sl1 := by
  obtain ⟨ta, ga, sa⟩ := ha
  refine ⟨tLstRg (tRg1 ta), fun X hX => pe_listRg hX.calm (hX.g _ hgl) (by rw [hX.hm]; exact hml) (prg_1 (hX.g _ hg) (by rw [hX.hm]; exact hm) (ga X hX) (he _)) (na _), fun S H σ I Q fn => ?_⟩
  refine sa S H σ I _ fun v S1 H1 I1 a1 x1 f1 => ⟨n, tr_int x1, ⟨by omega, by omega, by omega, by omega, by omega⟩, fun m hm => ?_⟩
  refine (Mw.fin fn a1 fun h => h).fresh I1 hm ?_
  refine Trs.of_get (by rw [rgV_length, upI_len, Int.sub_zero]) fun j v d e1 e2 => ?_
  obtain ⟨hj, rfl⟩ := upI_at e2
  unfold rgV at e1
  rw [List.getElem?_map, List.getElem?_range (by rw [Int.sub_zero]; exact hj)] at e1
  cases e1
  exact .int _
end
end Mw

/-! NwT: trees of one's own. -/
namespace Mw
open PySem PySem.Spec L2
variable [Tb]
/-- e gives a new tree of one's own -/
def EVP (c : CxD) (B : Bs) (e : Expr) (sl : List Sl) (p : Bool) (t : PTr) (sl' : List Sl) : Prop :=
  ∃ r, (∀ X, InCx c X → PE X e r) ∧ ∀ S H σ, Stt c.K B S H σ sl → ∀ Q : VK, (∀ v S' H' fp, Stt c.K B S' H' σ sl' → Adv σ sl S H sl' S' H' p → TrP c.K S' H' fp v t → fp.Nodup → (∀ a ∈ fp, S' a = none ∧ B.H0 a = none ∧ ¬ OwnAt σ sl' a ∧ H a = none) → Q v H') → r σ H Q
def AVP (c : CxD) (B : Bs) (es : List Expr) (sl : List Sl) (p : Bool) (ts : List PTr) (sl' : List Sl) : Prop :=
  ∃ r, (∀ X, InCx c X → PA X es r) ∧ ∀ S H σ, Stt c.K B S H σ sl → ∀ Q : List V → Hp → Prop, (∀ vs S' H' fp, Stt c.K B S' H' σ sl' → Adv σ sl S H sl' S' H' p → TrPs c.K S' H' fp vs ts → fp.Nodup → (∀ a ∈ fp, S' a = none ∧ B.H0 a = none ∧ ¬ OwnAt σ sl' a ∧ H a = none) → Q vs H') → r σ H Q
section
variable {c : CxD} {B : Bs} {tg e a b : Expr} {es : List Expr} {ss rest : List Stmt} {sl sl1 sl2 sl3 : List Sl} {p q : Bool} {k k1 k2 : Kd} {ks : List Kd} {pos p1 p2 p3 p4 p5 : Pos} {R : Rt} {d : PyData} {ds ds' : List PyData} {t t1 t2 t3 : PTr} {ts : List PTr} {i : Nat}
theorem Adv.new {σ : L2.St} {S H S' H' : Hp} {l : Addr} (a : Adv σ sl S H sl1 S' H' p) (h : H' l = none) : H l = none := by
  cases e : H l with
  | none => rfl
  | some o => obtain ⟨o', e1⟩ := a.d l o e; rw [h] at e1; cases e1
theorem evp_st (h : EV c B e sl p (.st d) sl1) : EVP c B e sl p (.st d) sl1 := by
  obtain ⟨r, hr, hs⟩ := h
  exact ⟨r, hr, fun S H σ I Q q => hs S H σ I Q fun v S' H' I' a x _ => q v S' H' [] I' a (.st x) (by simp) (fun a m => absurd m (by simp))⟩
theorem evp_fr (h : EV c B e sl p (.fr (.lst ds)) sl1) : EVP c B e sl p (.ls ds) sl1 := by
  obtain ⟨r, hr, hs⟩ := h
  refine ⟨r, hr, fun S H σ I Q q => hs S H σ I Q fun v S' H' I' a x f => ?_⟩
  obtain ⟨l, rfl, n, n0, ⟨xs, e, tr⟩, na⟩ := x
  refine q _ S' H' [l] I' a (.ls e tr) (by simp) fun b m => ?_
  rw [List.mem_singleton.mp m]
  exact ⟨n, n0, na, f l rfl⟩
theorem EVP.to (h : EVP c B e sl p t sl1) {t' : PTr} (hk : t = t') : EVP c B e sl p t' sl1 := hk ▸ h
theorem EVP.nw (h : EVP c B e sl p t sl1) : EV c B e sl p (.nw t.d) sl1 := by
  obtain ⟨r, hr, hs⟩ := h
  exact ⟨r, hr, fun S H σ I Q q => hs S H σ I Q fun v S' H' fp I' a x _ _ => q v S' H' I' a (TrP.tr I'.sh x fun _ _ => rfl) trivial⟩
/-- what stands nowhere else will not change any more -/
theorem Stt.frzN {K : PySem.W.Frag} {S H Hl : Hp} {σ : L2.St} {fp : List Addr} (I : Stt K B S H σ sl) (n : ∀ a ∈ fp, S a = none ∧ B.H0 a = none ∧ ¬ OwnAt σ sl a) (hl : ∀ a, a ∉ fp → Hl a = H a) (hs : ∀ a ∈ fp, ∃ o, H a = some o ∧ ¬ Hard o) (nt : ∀ a ∈ fp, ∀ o, Hl a = some o → Stb o) : Stt K B (layS S Hl fp) Hl σ sl := by
  have s1 := layS_ext (H := Hl) fun a m => (n a m).1
  have nf : ∀ a o, H a = some o → Hard o → a ∉ fp := fun a o e h m => by
    obtain ⟨u, eu, nu⟩ := hs a m
    rw [e] at eu; cases eu; exact nu h
  refine ⟨I.s0.trans s1, fun b u e1 => ?_, fun b u e1 e2 => ?_, fun b u e1 e2 e3 => ?_, fun b u e1 => ?_, I.lsd, I.len, fun j s2 es => ?_, I.dis, tabs_lk I.tabs (fun a o e h => (hl a (nf a o e h)).trans e), fun a ps e => ?_, fun a o e => ?_, I.sm⟩
  · by_cases m : b ∈ fp
    · rw [layS_in m] at e1; exact e1
    · rw [layS_out m] at e1; rw [hl b m]; exact I.sh _ _ e1
  · by_cases m : b ∈ fp
    · exact (n b m).2.1
    · rw [layS_out m] at e1; exact I.new b u e1 e2
  · rw [hl b fun m => by rw [(n b m).2.1] at e1; cases e1]; exact I.keep b u e1 e2 e3
  · rw [hl b fun m => by rw [(n b m).2.1] at e1; cases e1]; exact I.dom b u e1
  · obtain ⟨y, hy, ok⟩ := I.slot j s2 es
    have ap : ∀ a, FpS s2 y a → a ∉ fp := fun a m m2 => (n a m2).2.2 ⟨j, s2, y, es, hy, m⟩
    refine ⟨y, hy, ok.ext s1 (fun a m => hl a (ap a m)) fun a m => ?_⟩
    rw [layS_out (ap a m)]
    exact (ok.fp m).1
  · obtain ⟨ps', e1⟩ := I.tbk a ps e
    exact ⟨ps', (hl a (nf a _ e1 (.inl ⟨ps', rfl⟩))).trans e1⟩
  · by_cases m : a ∈ fp
    · rw [layS_in m] at e; exact nt a m o e
    · rw [layS_out m] at e; exact I.snt a o e
theorem EVP.fz (h : EVP c B e sl p t sl1) : EV c B e sl p (.st t.d) sl1 := by
  obtain ⟨r, hr, hs⟩ := h
  refine ⟨tLkE r, fun X hX => pe_lkE (hr X hX), fun S H σ I Q q => hs S H σ I _ fun v S' H' fp I' a x nd n => ⟨dks H' fp, fun d m => (dks_mem m).2, nd.filter _, fun od => ?_⟩⟩
  have nS : ∀ a ∈ fp, S' a = none := fun a m => (n a m).1
  obtain ⟨t1, t2⟩ := x.frzL nS od
  have hl : ∀ b, b ∉ fp → lkH H' (dks H' fp) od b = H' b := fun b m => lkH_out fun z => m (dks_mem z).1
  have nf : ∀ b o, H b = some o → b ∉ fp := fun b o e m => by rw [(n b m).2.2.2] at e; cases e
  refine q v (layS S' (lkH H' (dks H' fp) od) fp) (lkH H' (dks H' fp) od) (I'.frzN (fun a m => ⟨(n a m).1, (n a m).2.1, (n a m).2.2.1⟩) hl (fun a m => x.dom a m) t2) ⟨a.s.trans (layS_ext nS), fun b o e1 e2 => ?_, fun b o e => ?_, fun b o e ht no => ?_, fun hp => ⟨fun b o e ht => ?_, fun b ps e => ?_⟩, a.w⟩ t1 trivial
  · by_cases m : b ∈ fp
    · exact (n b m).2.2.2
    · rw [layS_out m] at e1
      exact a.n b o e1 e2
  · rw [hl b (nf b o e)]; exact a.d b o e
  · rw [hl b (nf b o e)]; exact a.k b o e ht no
  · rw [hl b (nf b o e)]; exact (a.h hp).st b o e ht
  · rw [hl b (nf b _ e)]; exact (a.h hp).tb b ps e
theorem avp_nil : AVP c B [] sl true [] sl := ⟨tNil, fun _ _ => pa_nil, fun S H σ I Q q => q [] S H [] I .refl .nil (by simp) (fun a m => absurd m (by simp))⟩
theorem avp_cons (ha : EVP c B e sl p t sl1) (hr : AVP c B es sl1 q ts sl2) (hs : ∀ env, starEach (e :: es) env = (false, eval e env) :: starEach es env := by intro env; rfl) : AVP c B (e :: es) sl (p && q) (t :: ts) sl2 := by
  obtain ⟨ta, ga, sa⟩ := ha
  obtain ⟨tb, gb, sb⟩ := hr
  refine ⟨tCons ta tb, fun X hX => pa_cons (ga X hX) (gb X hX) (hs _), fun S H σ I Q fn => ?_⟩
  refine sa S H σ I _ fun x S1 H1 f1 I1 a1 x1 nd1 n1 => sb S1 H1 σ I1 _ fun vs S2 H2 f2 I2 a2 x2 nd2 n2 => ?_
  have up : ∀ b ∈ f1, H2 b = H1 b ∧ S2 b = none ∧ ¬ OwnAt σ sl2 b := fun b m => by
    obtain ⟨u, eu, nu⟩ := x1.dom b m
    obtain ⟨z1, z2, z3, z4⟩ := n1 b m
    exact ⟨(a2.k b u eu (Hard.nt nu) z3).trans eu.symm, a2.notS eu z1, fun z => z3 (a2.w b z)⟩
  refine fn _ S2 H2 (f1 ++ f2) I2 (a1.trans a2) (.cons (x1.ext a2.s fun b m => (up b m).1) x2) ?_ fun b m => ?_
  · refine List.nodup_append.mpr ⟨nd1, nd2, fun b hb b' hb' e => ?_⟩
    subst e
    obtain ⟨u, eu, _⟩ := x1.dom b hb
    have := (n2 b hb').2.2.2
    rw [eu] at this; cases this
  · rcases List.mem_append.mp m with m | m
    · exact ⟨(up b m).2.1, (n1 b m).2.1, (up b m).2.2, (n1 b m).2.2.2⟩
    · exact ⟨(n2 b m).1, (n2 b m).2.1, (n2 b m).2.2.1, a1.new (n2 b m).2.2.2⟩
theorem evp_lst (ha : AVP c B es sl p ts sl1) (hl : ts.length ≤ 1000000 := by exact Nat.le_of_ble_eq_true rfl) : EVP c B (.List es pos) sl p (.lst ts) sl1 := by
  obtain ⟨ta, ga, sa⟩ := ha
  refine ⟨tLst ta, fun X hX => pe_lst (ga X hX), fun S H σ I Q fn => sa S H σ I _ fun vs S1 H1 fp I1 a1 x1 nd n => ⟨by rw [x1.len, sizeLine_eq]; omega, fun l hl => ?_⟩⟩
  obtain ⟨w1, w2, w3⟩ := I1.notIn hl
  have nl : l ∉ fp := fun m => by obtain ⟨u, eu, _⟩ := x1.dom l m; rw [hl] at eu; cases eu
  refine fn _ S1 _ (l :: fp) (I1.laid hl) ((a1.trans (.same (same_new hl) (p := true))).weak fun h => by rw [h]; rfl) (.lst upd_same (x1.ext (.refl _) fun b m => upd_ne fun z => nl (by rw [← z]; exact m))) (List.nodup_cons.mpr ⟨nl, nd⟩) fun b m => ?_
  rcases List.mem_cons.mp m with e | m
  · rw [e]; exact ⟨w1, w2, w3, a1.new hl⟩
  · exact n b m
theorem evp_tup {x1 : Nat} (ha : AVP c B es sl p ts sl1) (hl : ts.length ≤ 1000000 := by exact Nat.le_of_ble_eq_true rfl) : EVP c B (.Tuple es x1 pos) sl p (.tup ts) sl1 := by
  obtain ⟨ta, ga, sa⟩ := ha
  refine ⟨tTup ta, fun X hX => pe_tup (ga X hX), fun S H σ I Q fn => sa S H σ I _ fun vs S1 H1 fp I1 a1 x1 nd n => ⟨by rw [x1.len, sizeLine_eq]; omega, fun l hl => ?_⟩⟩
  obtain ⟨w1, w2, w3⟩ := I1.notIn hl
  have nl : l ∉ fp := fun m => by obtain ⟨u, eu, _⟩ := x1.dom l m; rw [hl] at eu; cases eu
  refine fn _ S1 _ (l :: fp) (I1.laid hl) ((a1.trans (.same (same_new hl) (p := true))).weak fun h => by rw [h]; rfl) (.tup upd_same (x1.ext (.refl _) fun b m => upd_ne fun z => nl (by rw [← z]; exact m))) (List.nodup_cons.mpr ⟨nl, nd⟩) fun b m => ?_
  rcases List.mem_cons.mp m with e | m
  · rw [e]; exact ⟨w1, w2, w3, a1.new hl⟩
  · exact n b m
theorem evp_if {u : Bool} (h : TV c B e sl p u sl1) (h1 : u = true → EVP c B a sl1 q t sl2) (h2 : u = false → EVP c B b sl1 q t sl2) : EVP c B (.IfExp e a b pos) sl (p && q) t sl2 := by
  obtain ⟨te, ge, se⟩ := h
  refine ⟨tIf te (rE c a) (rE c b), fun X hX => pe_ifExp (ge X hX) (pe_rE hX) (pe_rE hX), fun S H σ I Q fn => ?_⟩
  refine se S H σ I _ fun S1 H1 I1 a1 => ?_
  cases u with
  | true =>
    rw [if_pos rfl]
    obtain ⟨r, hr, hs⟩ := h1 rfl
    exact ⟨r, hr, hs S1 H1 σ I1 Q fun v S2 H2 fp I2 a2 x nd n => fn v S2 H2 fp I2 (a1.trans a2) x nd fun b m => ⟨(n b m).1, (n b m).2.1, (n b m).2.2.1, a1.new (n b m).2.2.2⟩⟩
  | false =>
    rw [if_neg Bool.false_ne_true]
    obtain ⟨r, hr, hs⟩ := h2 rfl
    exact ⟨r, hr, hs S1 H1 σ I1 Q fun v S2 H2 fp I2 a2 x nd n => fn v S2 H2 fp I2 (a1.trans a2) x nd fun b m => ⟨(n b m).1, (n b m).2.1, (n b m).2.2.1, a1.new (n b m).2.2.2⟩⟩
/-- a def that gives a new tree -/
theorem evp_callP {α : Type} {pre : α → Prop} {args : α → List Sl} {res : α → Kd} {x : Str} {st : Stmt} {ps : List Str} {lv : Nat} {P : Program} {w : World} {K : PySem.W.Frag} {mg : Str → Option Value} {base : Heap} (v : α) (F : DefOk P w K mg base x st ps lv (Prm K mg (Pure pre args res))) (ha : AV c B (e :: es) sl p ks sl1) (hcs : ArgP ks (args v)) (hp : pre v) (hres : res v = .ft t := by rfl) (hc : DefOk P w K mg base x st ps lv (Prm K mg (Pure pre args res)) → c.Def x st ps lv (Prm c.K c.mg (Pure pre args res)) := by exact fun h => h) (hlv : lv ≤ c.lv := by exact Nat.le_of_ble_eq_true rfl) (hg : c.sc.names.lookup x = some .globalImplicit := by rfl)
    (hdb : (x == ("__debug__" : Str)) = false := by decide) (he : ∀ env, starEach (e :: es) env = (false, eval e env) :: starEach es env := by intro env; rfl) (hpl : ∀ env, (backTo pos (starEach es env)).any (·.1) = false := by intro env; rfl) : EVP c B (.Call (.Name x p1) (e :: es) [] pos) sl p t sl1 := by
  obtain ⟨f, fd, hm, hF, hb, G⟩ := (hc F).ex
  obtain ⟨r, hr, hs⟩ := ha
  refine ⟨fun σ H Q => r σ H fun vs H1 => Prm c.K c.mg (Pure pre args res) vs H1 Q fun cls d H' => c.W cls d σ H', fun X hX => pe_callG (by rw [hX.hP, hX.hw, hX.hK, hX.hm, hX.hb]; exact G) (hX.rm.mono hlv) hX.gu hX.tk (hX.g x hg) (by rw [hX.hm]; exact hm) (by rw [hX.hK]; exact hF.kp) (by rw [hX.hK]; exact hb) (hr X hX) hdb (he _) (hpl _), fun S H σ I Q fn => ?_⟩
  refine hs S H σ I _ fun vs S1 H1 I1 a1 x1 => ⟨S1, [], args v, .ret (res v), args v, ⟨v, hp, rfl, rfl, rfl⟩, hcs.stt I1 x1, fun u S' H' J hv => ?_⟩
  obtain ⟨I2, a2⟩ := back0 I1 J
  rw [hres] at hv
  obtain ⟨fp, tp, nd, n⟩ := hv
  refine fn u S' H' fp I2 ((a1.trans a2).weak fun h => by rw [h]; rfl) tp nd fun b m => ?_
  obtain ⟨z1, z2, _⟩ := n b m
  have z2' : H1 b = none := z2
  obtain ⟨_, h0, na⟩ := I1.notIn z2'
  exact ⟨z1, h0, na, a1.new z2'⟩
theorem evp_callPk {α : Type} {pre : α → Prop} {args : α → List Sl} {res : α → Kd} {x : Str} {st : Stmt} {ps nms : List Str} {lv : Nat} {kws : List Keyword} {ix : List Nat} {P : Program} {w : World} {K : PySem.W.Frag} {mg : Str → Option Value} {base : Heap} (v : α) (F : DefOk P w K mg base x st ps lv (Prm K mg (Pure pre args res))) (kb : KwOk x st ps nms 0 ix) (ha : KV c B kws sl p ks sl1) (hcs : ArgP (pick ks ix) (args v)) (hp : pre v) (hres : res v = .ft t := by rfl) (hc : DefK P w K mg base x st ps lv (Prm K mg (Pure pre args res)) → c.DefK x st ps lv (Prm c.K c.mg (Pure pre args res)) := by exact fun h => h) (hlv : lv ≤ c.lv := by exact Nat.le_of_ble_eq_true rfl) (hg : c.sc.names.lookup x = some .globalImplicit := by rfl)
    (hlk : ks.length = kws.length := by rfl) (hln : kws.length = nms.length := by rfl) (hall : ∀ env, (backToKw pos (keywordEach kws env)).all (·.1.isSome) = true := by intro _; rfl) (hks : ∀ env, (backToKw pos (keywordEach kws env)).filterMap (·.1) = nms := by intro _; rfl)
    (hdb : (x == ("__debug__" : Str)) = false := by decide) (hpl : ∀ env, ((backTo pos (starEach [] env)).any (·.1) || (backToKw pos (keywordEach kws env)).any (·.1.isNone)) = false := by intro _; rfl) : EVP c B (.Call (.Name x p1) [] kws pos) sl p t sl1 := by
  obtain ⟨f, fd, hm, hF, G⟩ := (hc F.toK).ex
  obtain ⟨r, hr, hs⟩ := ha
  refine ⟨fun σ H Q => r σ H fun vs H1 => vs.length = kws.length ∧ Prm c.K c.mg (Pure pre args res) (pick vs ix) H1 Q fun cls d H' => c.W cls d σ H', fun X hX => pe_callGK0 (by rw [hX.hP, hX.hw, hX.hK, hX.hm, hX.hb]; exact G) (hX.rm.mono hlv) hX.gu hX.tk (hX.g x hg) (by rw [hX.hm]; exact hm) (by rw [hX.hK]; exact hF.kp) (by rw [hX.hK]; exact kb.kwb hF) (hr X hX) hln (hall _) (hks _) hdb (hpl _), fun S H σ I Q fn => ?_⟩
  refine hs S H σ I _ fun vs S1 H1 I1 a1 x1 => ⟨by rw [x1.len]; exact hlk, S1, [], args v, .ret (res v), args v, ⟨v, hp, rfl, rfl, rfl⟩, hcs.stt I1 (x1.pick ix), fun u S' H' J hv => ?_⟩
  obtain ⟨I2, a2⟩ := back0 I1 J
  rw [hres] at hv
  obtain ⟨fp, tp, nd, n⟩ := hv
  refine fn u S' H' fp I2 ((a1.trans a2).weak fun h => by rw [h]; rfl) tp nd fun b m => ?_
  obtain ⟨z1, z2, _⟩ := n b m
  have z2' : H1 b = none := z2
  obtain ⟨_, h0, na⟩ := I1.notIn z2'
  exact ⟨z1, h0, na, a1.new z2'⟩
/-- return a new tree -/
theorem go_retE (h : EVP c B e sl p t sl1) (hr : R.rt (.ft t) sl1) : GO c B (.Return (some e) pos :: rest) sl R := by
  obtain ⟨r, ge, hs⟩ := h
  refine go_cons (M := fun _ => False) ⟨tRet r, fun X hX => ps_ret (ge X hX), fun S H σ I D q => ?_⟩ fun _ h => h.elim
  exact hs S H σ I _ fun v S1 H1 fp I1 a1 x1 nd n => q.rt S1 H1 σ sl1 v (.ft t) a1.s I1 ⟨fp, x1, nd, fun b m => ⟨(n b m).1, (n b m).2.1, (n b m).2.2.1⟩⟩ hr
/-- name = a new tree -/
theorem go_setP (i : Nat) {x : Str} (h : EVP c B e sl p t sl1) (h2 : ∀ fp, GO c B rest (sl1.set i (.prv t fp)) R) (hi : (sl1[i]?).isSome = true := by rfl) (hN : c.N[i]? = some x := by rfl) (nd : c.N.Nodup := by assumption) (hx : c.sc.names.lookup x = some .local ∨ c.sc.names.lookup x = some .cell := by first | exact .inl rfl | exact .inr rfl)
    (hsw : ∀ X, InCx c X → swapsWith e (some (.Name x p1)) pos.line X.env = pure false := by intro _ _; rfl) : GO c B (.Assign [.Name x p1] e pos :: rest) sl R := by
  obtain ⟨r, ge, hs⟩ := h
  refine ⟨tSeq (tAsg r (gName i)) (rB c rest), fun X hX => pss_cons (ps_set (by rw [hX.hN]; exact nd) (by rw [hX.hN]; exact hN) (hX.loc hx).1 (ge X hX) (hsw X hX) (hX.loc hx).2) (ps_rB hX), fun S H σ I D q => ?_⟩
  refine hs S H σ I _ fun v S1 H1 fp I1 a1 x1 nd1 n => ?_
  have I2 := I1.put (i := i) (.prv t fp) ⟨v, rfl, x1, nd1, fun b m => ⟨(n b m).1, (n b m).2.1⟩⟩ (fun b m => (n b (fpS_prv.mp m)).2.2.1) hi
  exact (h2 fp).rr S1 H1 _ I2 D (q.up a1.s)
/-- the tree in the slot, read as it is now -/
theorem ev_prv (i : Nat) {x : Str} {fp : List Addr} (hd : sl[i]? = some (.prv t fp) := by rfl) (hN : c.N[i]? = some x := by rfl) (hv : Vis c.sc x := by first | exact .inl rfl | exact .inr (.inl rfl) | exact .inr (.inr rfl))
    (h1 : (x == ("__debug__" : Str)) = false := by decide) (h2 : (x == ("__classdict__" : Str)) = false := by decide) : EV c B (.Name x pos) sl true (.nw t.d) sl :=
  ⟨tVar i, fun X hX => pe_var (by rw [hX.hN]; exact hN) (hX.v x hv) h1 h2, fun S H σ I Q q => by
    obtain ⟨y, hy, v, rfl, tp, nd, n⟩ := I.slot i _ hd
    exact ⟨v, hy, q v S H I .refl (TrP.tr I.sh tp fun _ _ => rfl) trivial⟩⟩
theorem go_frzP (i : Nat) {fp : List Addr} (h : GO c B ss (sl.set i (.val t.d)) R) (hs : sl[i]? = some (.prv t fp) := by rfl) : GO c B ss sl R := by
  refine ⟨tLk (rB c ss), fun X hX => pss_lk (ps_rB hX), fun S H σ I D q => ⟨dks H fp, fun d m => (dks_mem m).2, ?_, fun od => ?_⟩⟩
  · exact (I.frzP hs fun _ => ⟨.none, none, .fields #[], #[]⟩).2.1
  · obtain ⟨_, _, S', s1, I'⟩ := I.frzP hs od
    exact h.rr S' _ σ I' D (q.up s1)
theorem go_forget (i : Nat) (h : GO c B ss (sl.set i .no) R) : GO c B ss sl R :=
  ⟨rB c ss, fun X hX => ps_rB hX, fun S H σ I D q => h.rr S H σ (I.forget i) D q⟩
/-- return the name of a tree of one's own -/
theorem go_retP (i : Nat) {x : Str} {fp : List Addr} (hr : R.rt (.ft t) (sl.set i .no)) (hs : sl[i]? = some (.prv t fp) := by rfl) (hN : c.N[i]? = some x := by rfl) (hv : Vis c.sc x := by first | exact .inl rfl | exact .inr (.inl rfl) | exact .inr (.inr rfl)) (h1 : (x == ("__debug__" : Str)) = false := by decide) (h2 : (x == ("__classdict__" : Str)) = false := by decide) :
    GO c B (.Return (some (.Name x p1)) pos :: rest) sl R := by
  refine go_cons (M := fun _ => False) ⟨tRet (tVar i), fun X hX => ps_ret (pe_var (by rw [hX.hN]; exact hN) (hX.v x hv) h1 h2), fun S H σ I D q => ?_⟩ fun _ h => h.elim
  obtain ⟨y, hy, v, rfl, tp, nd, n⟩ := I.slot i _ hs
  refine ⟨v, hy, q.rt S H σ _ _ (.ft t) (.refl _) (I.forget i) ⟨fp, tp, nd, fun b m => ⟨(n b m).1, (n b m).2, fun ⟨j, y⟩ => ?_⟩⟩ hr⟩
  rcases fpAt_setS y with ⟨h1, f1⟩ | ⟨h1, _, _, f1⟩
  · exact h1 (I.dis j i b f1 ⟨_, _, hs, hy, fpS_prv.mpr m⟩)
  · exact fpS_no f1
/-- a flat thing read out -/
theorem EV.flat (h : EV c B e sl p (.nw d) sl1) (hd : flatD d = true) : EV c B e sl p (.st d) sl1 := by
  obtain ⟨r, hr, hs⟩ := h
  exact ⟨r, hr, fun S H σ I Q q => hs S H σ I Q fun v S' H' I' a x f => q v S' H' I' a (by
    have x' : Tr c.K H' v d := x
    show Tr c.K S' v d
    rw [tr_flat x' hd]
    exact tr_toV hd) trivial⟩
theorem atI_tr {K : PySem.W.Frag} {H : Hp} {xs : List V} {ds : List PyData} {i : Int} {d : PyData} (tr : Trs K H xs ds) (hd : atI ds i = some d) : ∃ v, atI xs i = some v ∧ Tr K H v d := by
  unfold atI at hd ⊢
  obtain ⟨j, hj, hj2⟩ := Option.bind_eq_some_iff.mp hd
  obtain ⟨v, hv, tv⟩ := tr.get hj2
  exact ⟨v, by rw [tr.len, hj]; exact hv, tv⟩
theorem ev_ixW {i : Int} (ha : EV c B a sl p (.nw (.list ds)) sl1) (hb : EV c B b sl1 true (.st (.int i)) sl2) (hd : atI ds i = some d) (hs : PlainIx b := by exact fun _ _ => rfl) : EV c B (.Subscript a b pos) sl p (.nw d) sl2 := by
  obtain ⟨ta, ga, sa⟩ := ha
  obtain ⟨tb, gb, sb⟩ := hb
  refine ⟨tOp (rIxL c.K) ta tb, fun X hX => pe_ix (by rw [← hX.hK]; exact ix_list) (ga X hX) (gb X hX) hs, fun S H σ I Q fn => ?_⟩
  refine sa S H σ I _ fun x S1 H1 I1 a1 x1 _ => sb S1 H1 σ I1 _ fun y S2 H2 I2 a2 y2 _ => ?_
  have x1' : Tr c.K H2 x (.list ds) := Tr.sam (a2.h rfl) x1
  obtain ⟨l, xs, rfl, hq, tr⟩ := tr_lst x1'
  obtain ⟨v, hv, tv⟩ := atI_tr tr hd
  exact ⟨l, xs, i, v, rfl, tr_int y2, hq, hv, fn v S2 H2 I2 ((a1.trans a2).weak fun h => by rw [h]; rfl) tv trivial⟩
theorem ev_ixWT {i : Int} (ha : EV c B a sl p (.nw (.tuple ds)) sl1) (hb : EV c B b sl1 true (.st (.int i)) sl2) (hd : atI ds i = some d) (hs : PlainIx b := by exact fun _ _ => rfl) : EV c B (.Subscript a b pos) sl p (.nw d) sl2 := by
  obtain ⟨ta, ga, sa⟩ := ha
  obtain ⟨tb, gb, sb⟩ := hb
  refine ⟨tOp (rIxT c.K) ta tb, fun X hX => pe_ix (by rw [← hX.hK]; exact ix_tup) (ga X hX) (gb X hX) hs, fun S H σ I Q fn => ?_⟩
  refine sa S H σ I _ fun x S1 H1 I1 a1 x1 _ => sb S1 H1 σ I1 _ fun y S2 H2 I2 a2 y2 _ => ?_
  have x1' : Tr c.K H2 x (.tuple ds) := Tr.sam (a2.h rfl) x1
  obtain ⟨l, xs, rfl, hq, tr⟩ := tr_tup x1'
  obtain ⟨v, hv, tv⟩ := atI_tr tr hd
  exact ⟨l, xs, i, v, rfl, tr_int y2, hq, hv, fn v S2 H2 I2 ((a1.trans a2).weak fun h => by rw [h]; rfl) tv trivial⟩
end
end Mw

/-! NwU: lists that change, further; lists of numbers; trees of one's own that change. -/
namespace Mw
open PySem PySem.Spec L2
variable [Tb]
/-- slot i is the name x -/
structure Nm (c : CxD) (i : Nat) (x : Str) : Prop where
  hN : c.N[i]? = some x
  hv : Vis c.sc x
  h1 : (x == ("__debug__" : Str)) = false
  h2 : (x == ("__classdict__" : Str)) = false
theorem Nm.pe {c : CxD} {i : Nat} {x : Str} {pos : Pos} {X : Cx} (n : Nm c i x) (hX : InCx c X) : PE X (.Name x pos) (tVar i) := pe_var (by rw [hX.hN]; exact n.hN) (hX.v x n.hv) n.h1 n.h2
/-- o.name(e) -/
structure Mc1 (o : Expr) (name : Str) (e : Expr) (p2 p3 : Pos) : Prop where
  base : ∀ env, attributeBase o name env (eval o env) = eval o env
  few : ∀ env, ((backTo p3 (starEach [e] env)).all (fun x => !x.1) && (backToKw p3 (keywordEach [] env)).all (fun x => x.1.isSome) && decide ([e].length + ([] : List Keyword).length + (if ([] : List Keyword).isEmpty then 0 else 1) < 30)) = true
  line : (p2.endLine == p3.line) = true
  st : ∀ env, starEach [e] env = (false, eval e env) :: starEach [] env
/-- o.name() -/
structure Mc0 (o : Expr) (name : Str) (p2 p3 : Pos) : Prop where
  base : ∀ env, attributeBase o name env (eval o env) = eval o env
  line : (p2.endLine == p3.line) = true
section
variable {c : CxD} {B : Bs} {tg e a b elt iter : Expr} {ifs : List Expr} {es : List Expr} {ss rest : List Stmt} {sl sl1 sl2 sl3 : List Sl} {p q z : Bool} {k k1 k2 : Kd} {ks : List Kd} {pos p1 p2 p3 p4 p5 : Pos} {R : Rt} {d : PyData} {ds ds' : List PyData} {s : Sl} {xs ys : List Int} {x y n m : Int} {nm : Str} {scope : Scope}
/-! ### lists of numbers -/
def AVI (c : CxD) (B : Bs) (es : List Expr) (sl : List Sl) (p : Bool) (xs : List Int) (sl' : List Sl) : Prop := AV c B es sl p (xs.map fun i => Kd.st (.int i)) sl'
theorem avi_nil : AVI c B [] sl true [] sl := av_nil
theorem avi_cons (ha : EV c B e sl p (.st (.int x)) sl1) (hr : AVI c B es sl1 q xs sl2) (hs : ∀ env, starEach (e :: es) env = (false, eval e env) :: starEach es env := by intro env; rfl) : AVI c B (e :: es) sl (p && q) (x :: xs) sl2 := av_cons ha hr (by simp [Kd.firm]) hs
theorem sts_ints : ∀ xs : List Int, Sts (xs.map fun i => Kd.st (.int i)) (nums xs)
  | [] => .nil
  | _ :: r => .cons (sts_ints r)
theorem ev_lstN (ha : AVI c B es sl p xs sl1) (hl : xs.length ≤ 1000000 := by exact Nat.le_of_ble_eq_true rfl) : EV c B (.List es pos) sl p (.fr (.lst (nums xs))) sl1 := ev_lst ha (sts_ints xs) (hl := by rw [len_nums]; exact hl)
theorem ev_catN (ha : EV c B a sl p k1 sl1) (hb : EV c B b sl1 true k2 sl2) (hz : xs.length + ys.length ≤ 1000000) (h1 : LsK k1 (nums xs) := by first | exact .st | exact .ls | exact .fr) (h2 : LsK k2 (nums ys) := by first | exact .st | exact .ls | exact .fr) : EV c B (.BinOp a .Add b pos) sl p (.fr (.lst (nums (xs ++ ys)))) sl2 :=
  (ev_cat ha hb h1 h2 (by rw [len_nums, len_nums]; exact hz)).to (by rw [nums_app])
theorem rep_nums (n : Nat) (xs : List Int) : (List.replicate n (nums xs)).flatten = nums (List.replicate n xs).flatten := by
  induction n with
  | zero => rfl
  | succ n ih => rw [List.replicate_succ, List.flatten_cons, ih, List.replicate_succ, List.flatten_cons, nums_app]
theorem ev_repN (ha : EV c B a sl p (.fr (.lst (nums xs))) sl1) (hb : EV c B b sl1 q (.st (.int m)) sl2) (hm : -(2 ^ 63) ≤ m ∧ m < 2 ^ 63) (hz : xs.length * m.toNat ≤ 1000000) : EV c B (.BinOp a .Mult b pos) sl (p && q) (.fr (.lst (nums (List.replicate m.toNat xs).flatten))) sl2 :=
  (ev_rep ha hb hm (by rw [len_nums]; exact hz)).to (by rw [rep_nums])
theorem flat_one (n : Nat) (x : Int) : (List.replicate n [x]).flatten = List.replicate n x := by
  induction n with
  | zero => rfl
  | succ n ih => rw [List.replicate_succ, List.flatten_cons, ih]; rfl
/-- [v] * n -/
theorem ev_rep1 {n : Nat} (ha : EV c B a sl p (.fr (.lst (nums [x]))) sl1) (hb : EV c B b sl1 q (.st (.int (n : Int))) sl2) (hm : n ≤ 1000000) : EV c B (.BinOp a .Mult b pos) sl (p && q) (.fr (.lst (nums (List.replicate n x)))) sl2 :=
  (ev_repN ha hb (by omega) (by simp; omega)).to (by rw [Int.toNat_natCast, flat_one])
theorem cut_last {α : Type} (ds : List α) : cutD ds none (some (-1)) = ds.dropLast := by
  unfold cutD HT.sIx
  simp only [List.dropLast_eq_take, Nat.sub_zero, List.drop_zero]
  rw [if_pos (by decide)]
  congr 1
  omega
/-- xs[:-1] -/
theorem ev_sliceLast {j : Nat} (ha : EV c B a sl p k1 sl1) (hl : LsK k1 (nums xs) := by first | exact .st | exact .ls | exact .fr) : EV c B (.Subscript a (.Slice none (some (.UnaryOp .USub (.Constant (.int 1) j p1) p2)) none p3) pos) sl p (.fr (.lst (nums xs.dropLast))) sl1 :=
  (ev_slice ha so_none (so_some (i := -1) (ev_neg ev_int)) hl).to (by rw [cut_last]; unfold nums; rw [List.map_dropLast])
/-- xs.index(y) -/
theorem ev_index {j : Nat} (ha : EV c B a sl p k1 sl1) (hb : EV c B b sl1 true (.st (.int y)) sl2) (hj : xs[j]? = some y) (hno : ∀ m : Nat, m < j → xs[m]? ≠ some y) (hl : LsK k1 (nums xs) := by first | exact .st | exact .ls | exact .fr) (mc : Mc1 a "index" b p2 p3 := by exact ⟨fun _ => rfl, fun _ => rfl, rfl, fun _ => rfl⟩) : EV c B (.Call (.Attribute a "index" p2) [b] [] p3) sl p (.st (.int (j : Nat))) sl2 := by
  obtain ⟨ta, ga, sa⟩ := ha
  obtain ⟨tb, gb, sb⟩ := av_cons hb (av_nil (sl := sl2)) rfl mc.st
  refine ⟨tBM c.K "list" (rIndex c.K) ta tb, fun X hX => by have := pe_bm PySem.F.plainAttrs_list PySem.F.slot_list_index PySem.F.type_list_index mt_index (ga X hX) (gb X hX) (mc.base _) (mc.few _) mc.line (mc.st _) (by rfl); rw [hX.hK] at this; exact this, fun S H σ I Q fn => ?_⟩
  refine sa S H σ I _ fun v S1 H1 I1 a1 x1 _ => ?_
  obtain ⟨l, vs, rfl, hq, t⟩ := hl.rd I1 x1
  refine ⟨.inl ⟨rfl, vs, hq⟩, sb S1 H1 σ I1 _ fun ws S2 H2 I2 a2 x2 => ?_⟩
  obtain ⟨w, rfl, hw⟩ := one_arg x2
  cases tr_int hw
  have hq2 := (a2.h rfl).seq hq
  cases trs_nums_eq t
  have at_ : ∀ (m : Nat) (z : V), (xs.map V.int)[m]? = some z → ∃ u, xs[m]? = some u ∧ z = .int u := fun m z e => by
    rw [List.getElem?_map] at e
    obtain ⟨u, hu, e⟩ := Option.map_eq_some_iff.mp e
    exact ⟨u, hu, e.symm⟩
  refine ⟨l, xs.map V.int, .int y, j, .int y, rfl, rfl, hq2, rfl, by simp [flatV], by rw [List.getElem?_map, hj]; rfl, by simp [eqV], fun m z hm e => ?_, fn _ S2 H2 I2 ((a1.trans a2).weak fun h => by rw [h]; rfl) (.int _) trivial⟩
  obtain ⟨u, hu, rfl⟩ := at_ m z e
  have : u ≠ y := fun e2 => hno m hm (by rw [hu, e2])
  simp [eqV, this]
/-- xs.count(y) -/
theorem ev_count (ha : EV c B a sl p k1 sl1) (hb : EV c B b sl1 true (.st (.int y)) sl2) (hl : LsK k1 (nums xs) := by first | exact .st | exact .ls | exact .fr) (mc : Mc1 a "count" b p2 p3 := by exact ⟨fun _ => rfl, fun _ => rfl, rfl, fun _ => rfl⟩) : EV c B (.Call (.Attribute a "count" p2) [b] [] p3) sl p (.st (.int (xs.count y : Nat))) sl2 := by
  obtain ⟨ta, ga, sa⟩ := ha
  obtain ⟨tb, gb, sb⟩ := av_cons hb (av_nil (sl := sl2)) rfl mc.st
  refine ⟨tBM c.K "list" (rCntI c.K) ta tb, fun X hX => by have := pe_bm PySem.F.plainAttrs_list PySem.F.slot_list_count PySem.F.type_list_count mt_lcount (ga X hX) (gb X hX) (mc.base _) (mc.few _) mc.line (mc.st _) (by rfl); rw [hX.hK] at this; exact this, fun S H σ I Q fn => ?_⟩
  refine sa S H σ I _ fun v S1 H1 I1 a1 x1 _ => ?_
  obtain ⟨l, vs, rfl, hq, t⟩ := hl.rd I1 x1
  refine ⟨.inl ⟨rfl, vs, hq⟩, sb S1 H1 σ I1 _ fun ws S2 H2 I2 a2 x2 => ?_⟩
  obtain ⟨w, rfl, hw⟩ := one_arg x2
  cases tr_int hw
  have hq2 := (a2.h rfl).seq hq
  cases trs_nums_eq t
  exact ⟨l, xs, y, rfl, rfl, hq2, fn _ S2 H2 I2 ((a1.trans a2).weak fun h => by rw [h]; rfl) (.int _) trivial⟩
/-- x.remove(e) -/
theorem go_remove (i : Nat) {j : Nat} (ha : EV c B e sl true (.st (.int y)) sl) (hj : xs[j]? = some y) (hno : ∀ m : Nat, m < j → xs[m]? ≠ some y) (h3 : GO c B rest (sl.set i (s.put (.lst (nums (xs.eraseIdx j))))) R) (hs : sl[i]? = some s := by rfl) (ho : s.ow = some (.lst (nums xs)) := by rfl) (n : Nm c i nm := by exact ⟨rfl, by first | exact .inl rfl | exact .inr (.inl rfl) | exact .inr (.inr rfl), by decide, by decide⟩) (mc : Mc1 (.Name nm p1) "remove" e p2 p3 := by exact ⟨fun _ => rfl, fun _ => rfl, rfl, fun _ => rfl⟩) :
    GO c B (.Expr (.Call (.Attribute (.Name nm p1) "remove" p2) [e] [] p3) pos :: rest) sl R :=
  go_expr (ev_mut (ks := [.st (.int y)]) (ds' := nums (xs.eraseIdx j)) (d := .none) i PySem.F.plainAttrs_list PySem.F.slot_list_remove PySem.F.type_list_remove (fun _ _ => mt_remove) (av_cons ha av_nil rfl mc.st) (fun B σ S H l vs zs I hk hx tx Q q => by
    obtain ⟨v, rfl, hv⟩ := one_arg hk
    cases tr_int hv
    cases trs_nums_eq tx
    exact ⟨l, xs, y, j, rfl, rfl, hx, hj, hno, q _ _ .non (trs_nums _)⟩) hs ho n.hN n.hv n.h1 n.h2 mc.base mc.few mc.line mc.st (fun _ => rfl)) h3 (fun _ => rfl)
/-- x.pop() -/
theorem ev_pop (i : Nat) {y : Int} (hy : xs[xs.length - 1]? = some y) (hs : sl[i]? = some s := by rfl) (ho : s.ow = some (.lst (nums xs)) := by rfl) (n : Nm c i nm := by exact ⟨rfl, by first | exact .inl rfl | exact .inr (.inl rfl) | exact .inr (.inr rfl), by decide, by decide⟩) (mc : Mc0 (.Name nm p1) "pop" p2 p3 := by exact ⟨fun _ => rfl, rfl⟩) :
    EV c B (.Call (.Attribute (.Name nm p1) "pop" p2) [] [] p3) sl false (.st (.int y)) (sl.set i (s.put (.lst (nums xs.dropLast)))) := by
  refine ⟨tBM0 c.K "list" rPop (tVar i), fun X hX => by have := pe_bm0 PySem.F.plainAttrs_list PySem.F.slot_list_pop PySem.F.type_list_pop mt_pop (n.pe hX) (mc.base _) mc.line; rw [hX.hK] at this; exact this, fun S H σ I Q fn => ?_⟩
  obtain ⟨l, el, nl, zs, hz, tz⟩ := I.own hs ho
  cases trs_nums_eq tz
  refine ⟨.ref l, el, .inl ⟨rfl, _, .inl (.inl hz)⟩, l, xs.map V.int, .int y, rfl, rfl, hz, by rw [List.length_map, List.getElem?_map, hy]; rfl, ?_⟩
  have I2 := I.mutate (u := .lst (xs.map V.int).dropLast) hs ho (put_ow (o' := .lst (nums xs.dropLast)) ho) put_kind el ⟨_, upd_same, by rw [← List.map_dropLast]; exact trs_nums _⟩
  exact fn _ S _ I2 (mut_adv I hs ho el) (.int y) trivial
/-! ### comprehensions over numbers -/
theorem fm_nums {g : Int → Option Int} {f : PyData → Option PyData} (h : ∀ x, f (.int x) = (g x).map .int) : ∀ xs : List Int, (nums xs).filterMap f = nums (xs.filterMap g)
  | [] => rfl
  | x :: r => by
    have ih := fm_nums h r
    show List.filterMap f (.int x :: nums r) = nums (List.filterMap g (x :: r))
    cases e : g x with
    | none => rw [List.filterMap_cons_none (by rw [h, e]; rfl), ih, List.filterMap_cons_none e]
    | some y => rw [List.filterMap_cons_some (b := .int y) (by rw [h, e]; rfl), ih, List.filterMap_cons_some e]; rfl
def liftI (g : Int → Option Int) : PyData → Option PyData
  | .int x => (g x).map .int
  | _ => none
/-- [f(x) for x in xs if ..], the own slot j -/
theorem evN_comp {nm : Str} {tp : Pos} (j : Nat) (g : Int → Option Int) (hi : EI c B (.Name nm tp) iter sl p (nums xs) z sl1)
    (hs : ∀ (i : Nat) (x : Int), xs[i]? = some x → ∃ b, TVs (c.blk scope) B ifs ((sl1.set j .no).set j (.val (.int x))) b ∧ (b = true → ∃ y, g x = some y ∧ EV (c.blk scope) B elt ((sl1.set j .no).set j (.val (.int x))) true (.st (.int y)) ((sl1.set j .no).set j (.val (.int x)))) ∧ (b = false → g x = none))
    (hl : xs.length ≤ 1000000) (hg : GT (c.blk scope) B (.Name nm tp) (.none) [j] (sl1.set j .no) ((sl1.set j .no).set j (.val .none)) := by exact gt_name _) (hg2 : ∀ d, GT (c.blk scope) B (.Name nm tp) d [j] (sl1.set j .no) ((sl1.set j .no).set j (.val d)) := by intro d; exact gt_name _)
    (ok : blkC c.N c.sc scope [(nm, j)] = true := by (try dsimp only [CxD.blk]); decide +kernel) (nd : c.N.Nodup := by assumption) (hf : ∀ env x, foldedSetIterable iter env x = pure x := by intro _ _; rfl) : EV c B (.ListComp elt [⟨.Name nm tp, iter, ifs, 0⟩] scope pos) sl p (.fr (.lst (nums (xs.filterMap g)))) sl1 :=
  (ev_comp [(nm, j)] (liftI g) hi (fun i d hd => by
    obtain ⟨x, hx, rfl⟩ := nums_get hd
    obtain ⟨b, h1, h2, h3⟩ := hs i x hx
    refine ⟨_, _, b, hg2 _, by simp, h1, fun hb => ?_, fun hb => ?_⟩
    · obtain ⟨y, hy, ev⟩ := h2 hb
      exact ⟨.int y, by show (g x).map _ = _; rw [hy]; rfl, ev⟩
    · show (g x).map _ = _; rw [h3 hb]; rfl) (by rw [len_nums]; exact hl) ok nd hf).to (by rw [fm_nums (g := g) fun x => rfl])
end
end Mw

/-! NwV: trees of one's own that change, that are taken apart. -/
namespace Mw
open PySem PySem.Spec L2
variable [Tb]
theorem trp_ls {K : PySem.W.Frag} {S H : Hp} {fp : List Addr} {v : V} {ds : List PyData} (h : TrP K S H fp v (.ls ds)) : ∃ l xs, v = .ref l ∧ fp = [l] ∧ H l = some (.lst xs) ∧ Trs K S xs ds := by
  cases h with
  | ls h t => exact ⟨_, _, rfl, rfl, h, t⟩
theorem trp_lst {K : PySem.W.Frag} {S H : Hp} {fp : List Addr} {v : V} {ts : List PTr} (h : TrP K S H fp v (.lst ts)) : ∃ l xs f, v = .ref l ∧ fp = l :: f ∧ H l = some (.lst xs) ∧ TrPs K S H f xs ts := by
  cases h with
  | lst h t => exact ⟨_, _, _, rfl, rfl, h, t⟩
theorem trp_tup {K : PySem.W.Frag} {S H : Hp} {fp : List Addr} {v : V} {ts : List PTr} (h : TrP K S H fp v (.tup ts)) : ∃ l xs f, v = .ref l ∧ fp = l :: f ∧ H l = some (.tup xs) ∧ TrPs K S H f xs ts := by
  cases h with
  | tup h t => exact ⟨_, _, _, rfl, rfl, h, t⟩
theorem trp_st {K : PySem.W.Frag} {S H : Hp} {fp : List Addr} {v : V} {d : PyData} (h : TrP K S H fp v (.st d)) : fp = [] ∧ Tr K S v d := by
  cases h with
  | st h => exact ⟨rfl, h⟩
section
variable {c : CxD} {B : Bs} {tg e a b : Expr} {es : List Expr} {ss rest ba : List Stmt} {sl sl1 sl2 sl3 : List Sl} {p q : Bool} {k k1 k2 : Kd} {pos p1 p2 p3 p4 p5 : Pos} {R : Rt} {d : PyData} {ds ds' : List PyData} {t t1 t2 t3 : PTr} {ts : List PTr} {i : Nat} {nm : Str} {fp : List Addr}
theorem Stt.prv {K : PySem.W.Frag} {S H : Hp} {σ : L2.St} (I : Stt K B S H σ sl) (h : sl[i]? = some (.prv t fp)) : ∃ v, σ[i]? = some (some v) ∧ TrP K S H fp v t ∧ fp.Nodup ∧ ∀ a ∈ fp, S a = none ∧ B.H0 a = none := by
  obtain ⟨x, hx, v, rfl, r⟩ := I.slot i _ h
  exact ⟨v, hx, r⟩
theorem Stt.prvW {K : PySem.W.Frag} {S H : Hp} {σ : L2.St} {l : Addr} {u : HO} {v : V} {t' : PTr} {fp' : List Addr} (I : Stt K B S H σ sl) (h : sl[i]? = some (.prv t fp)) (hv : σ[i]? = some (some v)) (hl : l ∈ fp) (hn : ∀ a ∈ fp', a ∈ fp ∨ (S a = none ∧ B.H0 a = none ∧ ¬ OwnAt σ sl a)) (tr : TrP K S (upd H l u) fp' v t') (nd : fp'.Nodup) : Stt K B S (upd H l u) σ (sl.set i (.prv t' fp')) := by
  obtain ⟨v', hv', _, _, n⟩ := I.prv h
  rw [hv] at hv'
  cases hv'
  exact I.write h hv (fpS_prv.mpr hl) (fun a m => (hn a (fpS_prv.mp m)).elim (fun z => .inl (fpS_prv.mpr z)) fun z => .inr z.2.2) ⟨v, rfl, tr, nd, fun a m => (hn a m).elim (n a) fun z => ⟨z.1, z.2.1⟩⟩ (.inl (n l hl).2)
/-- x.append(e), a list of what stays -/
theorem go_appLs (i : Nat) (ha : EV c B e sl true (.st d) sl) (h : GO c B rest (sl.set i (.prv (.ls (ds ++ [d])) fp)) R) (hl : ds.length ≤ 1000000 := by first | omega | (simp only [len_nums, List.length_append, List.length_map, List.length_cons, List.length_nil]; omega)) (hs : sl[i]? = some (.prv (.ls ds) fp) := by rfl) (n : Nm c i nm := by exact ⟨rfl, by first | exact .inl rfl | exact .inr (.inl rfl) | exact .inr (.inr rfl), by decide, by decide⟩) (mc : Mc1 (.Name nm p1) "append" e p2 p3 := by exact ⟨fun _ => rfl, fun _ => rfl, rfl, fun _ => rfl⟩) :
    GO c B (.Expr (.Call (.Attribute (.Name nm p1) "append" p2) [e] [] p3) pos :: rest) sl R := by
  obtain ⟨tb, gb, sb⟩ := av_cons ha (av_nil (sl := sl)) rfl mc.st
  refine ⟨tSeq (tDrop (tBM c.K "list" rAppend (tVar i) tb)) (rB c rest), fun X hX => pss_cons (ps_expr (by have := pe_bm PySem.F.plainAttrs_list PySem.F.slot_list_append PySem.F.type_list_append mt_append (n.pe hX) (gb X hX) (mc.base _) (mc.few _) mc.line (mc.st _) (by rfl); rw [hX.hK] at this; exact this) (by rfl)) (ps_rB hX), fun S H σ I D q => ?_⟩
  obtain ⟨v, hv, tp, nd, n0⟩ := I.prv hs
  obtain ⟨l, xs, rfl, rfl, e0, t0⟩ := trp_ls tp
  refine ⟨.ref l, hv, .inl ⟨rfl, xs, .inl (.inl e0)⟩, sb S H σ I _ fun ws S2 H2 I2 a2 x2 => ?_⟩
  obtain ⟨w, rfl, hw⟩ := one_arg x2
  obtain ⟨v2, hv2, tp2, _, _⟩ := I2.prv hs
  rw [hv] at hv2
  cases hv2
  obtain ⟨l2, xs2, e2, e3, e4, t4⟩ := trp_ls tp2
  cases e2
  refine ⟨l, xs2, w, rfl, rfl, e4, by rw [t4.len, sizeLine_eq]; omega, ?_⟩
  exact h.rr S2 _ σ (I2.prvW hs hv (by simp) (fun a m => .inl m) (.ls upd_same (t4.app (.one hw))) (by simp)) D (q.up a2.s)
/-- x[n].append(e) -/
theorem go_appAt (i n : Nat) (hb : EV c B b sl true (.st (.int (n : Nat))) sl) (hn : ts[n]? = some (.ls ds)) (ha : EV c B e sl true (.st d) sl) (h : GO c B rest (sl.set i (.prv (.lst (ts.set n (.ls (ds ++ [d])))) fp)) R) (hl : ds.length ≤ 1000000 := by first | omega | (simp only [len_nums, List.length_append, List.length_map, List.length_cons, List.length_nil]; omega)) (hs : sl[i]? = some (.prv (.lst ts) fp) := by rfl) (nmx : Nm c i nm := by exact ⟨rfl, by first | exact .inl rfl | exact .inr (.inl rfl) | exact .inr (.inr rfl), by decide, by decide⟩) (hpx : PlainIx b := by exact fun _ _ => rfl) (mc : Mc1 (.Subscript (.Name nm p1) b p4) "append" e p2 p3 := by exact ⟨fun _ => rfl, fun _ => rfl, rfl, fun _ => rfl⟩) :
    GO c B (.Expr (.Call (.Attribute (.Subscript (.Name nm p1) b p4) "append" p2) [e] [] p3) pos :: rest) sl R := by
  obtain ⟨tx, gx, sx⟩ := hb
  obtain ⟨tb, gb, sb⟩ := av_cons ha (av_nil (sl := sl)) rfl mc.st
  refine ⟨tSeq (tDrop (tBM c.K "list" rAppend (tOp (rIxL c.K) (tVar i) tx) tb)) (rB c rest), fun X hX => pss_cons (ps_expr (by have := pe_bm PySem.F.plainAttrs_list PySem.F.slot_list_append PySem.F.type_list_append mt_append (pe_ix (pos := p4) ix_list (nmx.pe (pos := p1) hX) (gx X hX) hpx) (gb X hX) (mc.base _) (mc.few _) mc.line (mc.st _) (by rfl); rw [hX.hK] at this; exact this) (by rfl)) (ps_rB hX), fun S H σ I D q => ?_⟩
  obtain ⟨v, hv, _, _, _⟩ := I.prv hs
  refine ⟨v, hv, sx S H σ I _ fun w S1 H1 I1 a1 x1 _ => ?_⟩
  obtain ⟨v1, hv1, tp1, nd1, n1⟩ := I1.prv hs
  rw [hv] at hv1
  cases hv1
  obtain ⟨l, xs, f, rfl, rfl, e0, t0⟩ := trp_lst tp1
  obtain ⟨y, hy⟩ : ∃ y, xs[n]? = some y := by
    have := (List.getElem?_eq_some_iff.mp hn).1
    exact ⟨_, List.getElem?_eq_getElem (by rw [t0.len]; exact this)⟩
  refine ⟨l, xs, (n : Nat), y, rfl, tr_int x1, .inl (.inl e0), atI_nat hy, ?_⟩
  obtain ⟨g0, g, g1, eg, tg, _⟩ := t0.split n hy hn
  obtain ⟨m, zs, rfl, rfl, em, tm⟩ := trp_ls tg
  refine ⟨.inl ⟨rfl, zs, .inl (.inl em)⟩, sb S1 H1 σ I1 _ fun ws S2 H2 I2 a2 x2 => ?_⟩
  obtain ⟨w2, rfl, hw⟩ := one_arg x2
  obtain ⟨v2, hv2, tp2, nd2, n2⟩ := I2.prv hs
  rw [hv] at hv2
  cases hv2
  obtain ⟨l2, xs2, f2, e2, e3, e4, t4⟩ := trp_lst tp2
  cases e2
  obtain ⟨-, rfl⟩ := List.cons.inj e3
  have e5 := a2.h rfl |>.st _ _ e0 (fun ps z => nomatch z)
  rw [e4] at e5
  cases e5
  obtain ⟨k0, k, k1', ek, tk, kk⟩ := t4.split n hy hn
  obtain ⟨m2, zs2, e6, rfl, em2, tm2⟩ := trp_ls tk
  cases e6
  have hm : m ∈ f := by rw [ek]; simp
  have hlm : l ≠ m := fun z => (List.nodup_cons.mp nd2).1 (by rw [z]; exact hm)
  refine ⟨m, zs2, w2, rfl, rfl, em2, by rw [tm2.len, sizeLine_eq]; omega, ?_⟩
  have nd3 := (List.nodup_cons.mp nd2).2
  rw [ek] at nd3
  have nk0 : ∀ a ∈ k0, a ≠ m := fun a ha z => (List.nodup_append.mp nd3).2.2 a ha m (by simp) z
  have nk1 : ∀ a ∈ k1', a ≠ m := fun a ha z => by
    have := (List.nodup_append.mp nd3).2.1
    rw [List.singleton_append, List.nodup_cons] at this
    exact this.1 (by rw [← z]; exact ha)
  have tr2 := kk S2 (upd H2 m (.lst (zs2 ++ [w2]))) [m] (.ls (ds ++ [d])) (.refl _) (.ls upd_same (tm2.app (.one hw))) (fun a ha => upd_ne (nk0 a ha)) (fun a ha => upd_ne (nk1 a ha))
  exact h.rr S2 _ σ (I2.prvW hs hv (List.mem_cons_of_mem _ hm) (fun a m => .inl m) (.lst (by rw [upd_ne hlm]; exact e4) (by rw [ek]; exact tr2)) nd2) D (q.up (a1.s.trans a2.s))
/-! ### a part of a tree of one's own -/
def EVM (c : CxD) (B : Bs) (e : Expr) (sl : List Sl) (i : Nat) (t : PTr) : Prop :=
  ∃ r, (∀ X, InCx c X → PE X e r) ∧ ∀ S H σ, Stt c.K B S H σ sl → ∀ Q : VK, (∀ v S' H' f, Stt c.K B S' H' σ sl → Adv σ sl S H sl S' H' true → TrP c.K S' H' f v t → f.Nodup → (∀ a ∈ f, S' a = none ∧ B.H0 a = none ∧ FpAt σ sl i a) → Q v H') → r σ H Q
theorem evm_name (i : Nat) (hs : sl[i]? = some (.prv t fp) := by rfl) (n : Nm c i nm := by exact ⟨rfl, by first | exact .inl rfl | exact .inr (.inl rfl) | exact .inr (.inr rfl), by decide, by decide⟩) : EVM c B (.Name nm pos) sl i t :=
  ⟨tVar i, fun X hX => n.pe hX, fun S H σ I Q q => by
    obtain ⟨v, hv, tp, nd, n0⟩ := I.prv hs
    exact ⟨v, hv, q v S H fp I .refl tp nd fun a m => ⟨(n0 a m).1, (n0 a m).2, _, _, hs, hv, fpS_prv.mpr m⟩⟩⟩
theorem evm_ix (n : Nat) (h : EVM c B a sl i (.lst ts)) (hb : EV c B b sl true (.st (.int (n : Nat))) sl) (hn : ts[n]? = some t) (hpx : PlainIx b := by exact fun _ _ => rfl) : EVM c B (.Subscript a b pos) sl i t := by
  obtain ⟨ta, ga, sa⟩ := h
  obtain ⟨tx, gx, sx⟩ := hb
  refine ⟨tOp (rIxL c.K) ta tx, fun X hX => pe_ix (by rw [← hX.hK]; exact ix_list) (ga X hX) (gx X hX) hpx, fun S H σ I Q fn => ?_⟩
  refine sa S H σ I _ fun v S1 H1 f I1 a1 tp nd n1 => sx S1 H1 σ I1 _ fun w S2 H2 I2 a2 x2 _ => ?_
  have ag : ∀ a ∈ f, H2 a = H1 a := fun a m => by
    obtain ⟨u, eu, nu⟩ := tp.dom a m
    exact ((a2.h rfl).st _ _ eu (Hard.nt nu)).trans eu.symm
  have tp2 := tp.ext a2.s ag
  obtain ⟨l, xs, f0, rfl, rfl, e0, t0⟩ := trp_lst tp2
  obtain ⟨y, hy⟩ : ∃ y, xs[n]? = some y := by
    have := (List.getElem?_eq_some_iff.mp hn).1
    exact ⟨_, List.getElem?_eq_getElem (by rw [t0.len]; exact this)⟩
  refine ⟨l, xs, (n : Nat), y, rfl, tr_int x2, .inl (.inl e0), atI_nat hy, ?_⟩
  obtain ⟨g0, g, g1, eg, tg, _⟩ := t0.split n hy hn
  have sub : ∀ a ∈ g, a ∈ l :: f0 := fun a m => List.mem_cons_of_mem _ (by rw [eg]; simp [m])
  refine fn y S2 H2 g I2 (a1.trans a2) tg ?_ fun a m => ?_
  · have := (List.nodup_cons.mp nd).2
    rw [eg] at this
    exact (List.nodup_append.mp (List.nodup_append.mp this).2.1).1
  · obtain ⟨z1, z2, z3⟩ := n1 a (sub a m)
    obtain ⟨u, eu, _⟩ := tp.dom a (sub a m)
    exact ⟨a2.notS eu z1, z2, z3⟩
/-- a, b = a part; the tree is given up -/
theorem go_unp2 (i j1 j2 : Nat) {x y : Str} {kt : Nat} {pt px py : Pos} (h : EVM c B e sl i (.tup [t1, t2])) (h2 : ∀ f1 f2, GO c B rest (((sl.set i .no).set j1 (.prv t1 f1)).set j2 (.prv t2 f2)) R) (hj : j1 ≠ j2 := by decide) (hi1 : ((sl.set i .no)[j1]?).isSome = true := by rfl) (hi2 : (((sl.set i .no).set j1 .no)[j2]?).isSome = true := by rfl) (hN : c.N[j1]? = some x := by rfl) (hN2 : c.N[j2]? = some y := by rfl) (nd : c.N.Nodup := by assumption) (hx : c.sc.names.lookup x = some .local ∨ c.sc.names.lookup x = some .cell := by first | exact .inl rfl | exact .inr rfl) (hy : c.sc.names.lookup y = some .local ∨ c.sc.names.lookup y = some .cell := by first | exact .inl rfl | exact .inr rfl)
    (hs : ∀ env, swapsWithSole [.Tuple [.Name x px, .Name y py] kt pt] e pos.line env = pure false := by intro _; rfl) (hw : ∀ env, swappedStores [.Tuple [.Name x px, .Name y py] kt pt] e env = pure none := by intro _; rfl) (ht : ∀ env, (assignEach [.Tuple [.Name x px, .Name y py] kt pt] env).map (·.2) = [assign (.Tuple [.Name x px, .Name y py] kt pt) env] := by intro _; rfl)
    (hn : ∀ env, (assignEach [.Name x px, .Name y py] env).length = 2 := by intro _; rfl) (hst : ∀ env, (assignEach [.Name x px, .Name y py] env).findIdx? (·.1) = none := by intro _; rfl) (hs1 : ∀ env, (assignEach [.Name x px, .Name y py] env).map (·.2) = assign (.Name x px) env :: (assignEach [.Name y py] env).map (·.2) := by intro _; rfl) (hs2 : ∀ env, (assignEach [.Name y py] env).map (·.2) = assign (.Name y py) env :: (assignEach [] env).map (·.2) := by intro _; rfl) :
    GO c B (.Assign [.Tuple [.Name x px, .Name y py] kt pt] e pos :: rest) sl R := by
  obtain ⟨r, ge, se⟩ := h
  refine ⟨tSeq (tAsg r (gTup c.K 2 (gCons (gName j1) (gCons (gName j2) gNil)))) (rB c rest), fun X hX => pss_cons (ps_asg (ge X hX) (by have := pg_tup (X := X) (k := kt) (pos := pt) hX.calm (pgs_cons (pg_name (pos := px) (by rw [hX.hN]; exact nd) (by rw [hX.hN]; exact hN) (hX.loc hx).1 (hX.loc hx).2) (pgs_cons (pg_name (pos := py) (by rw [hX.hN]; exact nd) (by rw [hX.hN]; exact hN2) (hX.loc hy).1 (hX.loc hy).2) pgs_nil (hs2 _)) (hs1 _)) (hn _) (hst _); rw [hX.hK] at this; exact this) (hs _) (hw _) (ht _)) (ps_rB hX), fun S H σ I D q => ?_⟩
  refine se S H σ I _ fun v S1 H1 f I1 a1 tp nd1 n1 => ?_
  obtain ⟨l, xs, f0, rfl, rfl, e0, t0⟩ := trp_tup tp
  cases t0 with
  | @cons v1 _ _ _ g1 _ tr1 t0 =>
    cases t0 with
    | @cons v2 _ _ _ g2 _ tr2 t0 =>
      cases t0
      refine ⟨l, _, rfl, .inl (.inl e0), rfl, v1, _, rfl, v2, _, rfl, ?_⟩
      have nd2 := (List.nodup_cons.mp nd1).2
      rw [List.append_nil] at nd2 n1
      obtain ⟨d1, d2, d3⟩ := List.nodup_append.mp nd2
      have off : ∀ a, a ∈ g1 ∨ a ∈ g2 → ¬ OwnAt σ (sl.set i .no) a := fun a m ⟨j, y⟩ => by
        rcases fpAt_setS y with ⟨h1, f1⟩ | ⟨h1, _, _, f1⟩
        · exact h1 (I1.dis j i a f1 (n1 a (List.mem_cons_of_mem _ (List.mem_append.mpr m))).2.2)
        · exact fpS_no f1
      have J1 := (I1.forget i).put (i := j1) (v := v1) (.prv t1 g1) ⟨v1, rfl, tr1, d1, fun a m => ⟨(n1 a (by simp [m])).1, (n1 a (by simp [m])).2.1⟩⟩ (fun a m => off a (.inl (fpS_prv.mp m))) hi1
      have J2 := J1.put (i := j2) (v := v2) (.prv t2 g2) ⟨v2, rfl, tr2, d2, fun a m => ⟨(n1 a (by simp [m])).1, (n1 a (by simp [m])).2.1⟩⟩ (fun a m z => by
        have m := fpS_prv.mp m
        rcases ownAt_set z with z | z
        · exact off a (.inr m) z
        · exact d3 a (fpS_prv.mp z) a m rfl) (by
          have : j2 ≠ j1 := Ne.symm hj
          rw [List.getElem?_set_ne hj] at hi2
          rw [List.getElem?_set_ne hj]
          exact hi2)
      exact ⟨rfl, (h2 g1 g2).rr S1 H1 _ J2 D (q.up a1.s)⟩
end
end Mw

/-! NwW: exceptions of the program's own: made, raised. -/
namespace Mw
open PySem PySem.Spec L2 PySem.HandSPX
/-! ### a class over ValueError, its __init__ stores its one argument -/
def xiA (f : Str) (p1 p2 : Pos) : Arguments := { posonlyargs := [], args := [{ arg := "self", annotation := none, pos := p1 }, { arg := f, annotation := none, pos := p2 }], vararg := none, kwonlyargs := [], kw_defaults := [], kwarg := none, defaults := [] }
def xiB (f : Str) (q1 q2 q3 q4 : Pos) : List Stmt := [.Assign [.Attribute (.Name "self" q1) f q2] (.Name f q3) q4]
def xiS (f : Str) : Scope := { kind := .function, names := [(PySem.Str.ofString "self", .local), (f, .local)], isGenerator := false, isCoroutine := false, more := [] }
structure XCls (K : PySem.W.Frag) (mg : Str → Option Value) (cn f : Str) (C : Addr) : Prop where
  gC : mg cn = some (.ref C)
  cls : ∃ nm q N bs bm sn sub ab col dd k0 k1 k2 k3 k5, K.lookup C = some (excClassObj nm q C N bs bm true sn sub ab col dd k0 k1 k2 k3 k5 "ValueError.__new__") ∧ refsVE bm = true
  sa : PySem.W.findIn K (.ref C) "__setattr__" = some (some (.builtin "object.__setattr__"))
  noN : PySem.W.findIn K (.ref C) f = some none
  kC : PySem.W.keepIn K (.ref C) = true
  tyC : PySem.W.typeIn K (.ref C) = some (.type "type")
  x : ExcC K C
  ini : ∃ fI : Addr, PySem.W.findIn K (.ref C) "__init__" = some (some (.ref fI)) ∧ PySem.W.typeIn K (.ref fI) = some (.type "function") ∧
    ∃ (oc : Value) (od : Option Addr) (doc pm : Value) (an : Option Addr) (cdv ct : Value) (osl : Array (Option Value)) (p1 p2 q1 q2 q3 q4 : Pos) (qi : Str),
      K.lookup fI = some ⟨oc, od, .func (PySem.W.fnOf "__init__" qi (xiA f p1 p2) (xiB f q1 q2 q3 q4) (xiS f) .none .none doc pm an cdv ct), osl⟩ ∧ PySem.W.codeIn K cdv qi = true
/-- what is reckoned of a field's name -/
structure XF (f : Str) : Prop where
  ne : f ≠ "self"
  db : (f == ("__debug__" : Str)) = false
  bnd : ∀ (qi : Str) (p1 p2 q1 q2 q3 q4 : Pos) (doc pm : Value) (an : Option Addr) (cdv ct a b : Value), bindArgs (PySem.W.fnOf "__init__" qi (xiA f p1 p2) (xiB f q1 q2 q3 q4) (xiS f) .none .none doc pm an cdv ct) ⟨[a, b], []⟩ = pure [(("self" : Str), a), (f, b)]
  kind : ∀ a b : Value, (([(("self" : Str), a), (f, b)] : List (Str × Value)).all fun y => (xiS f).names.lookup y.1 == some .local || (xiS f).names.lookup y.1 == some .cell) = true
  lf : ∀ (qi : Str) (L a : Addr) (cd : Value), (PyProof.Rows.envOfC qi (xiS f) L a cd).kindOf f = some .local
  ls : ∀ (qi : Str) (L a : Addr) (cd : Value), (PyProof.Rows.envOfC qi (xiS f) L a cd).kindOf "self" = some .local
  mf : ∀ (qi : Str) (L k : Addr) (cd a b : Value), PySem.bindL (PyProof.Rows.envOfC qi (xiS f) L k cd).kindOf [(("self" : Str), a), (f, b)] (fun _ => none) f = some b
  ms : ∀ (qi : Str) (L k : Addr) (cd a b : Value), PySem.bindL (PyProof.Rows.envOfC qi (xiS f) L k cd).kindOf [(("self" : Str), a), (f, b)] (fun _ => none) "self" = some a
theorem one_size (v : Value) : [v].length ≤ sizeLine := by
  rw [sizeLine_eq]
  exact (by decide : 1 ≤ 16777216)
theorem ldC {M : Model} {s : Shared} {name : Str} {scope : Scope} {L a : Addr} {cd : Value} {m : Str → Option Value} {x : Str} {pos : Pos} {v : Value} {Q : Value → Shared → Prop} {A : Around} {E : Value → Shared → Prop} (hn : s.heap.Ns L m) (hv : m x = some v) (h : Q v s)
    (hk : scope.kind = .function) (hl : (PyProof.Rows.envOfC name scope L a cd).kindOf x = some .local) (hd : (x == ("__debug__" : Str)) = false) :
    wpAny M A (eval (.Name x pos) (PyProof.Rows.envOfC name scope L a cd)) Q E s := wpAny_Name (wpAny_loadName_local hk hl hn hv h) hd
structure InitEnd (f : Str) (h h' : Heap) (x C dx t1 : Addr) (v : Value) : Prop where
  keep : ∀ b o, b ≠ x → h.get? b = some o → h'.get? b = some o
  obj : h'.get? x = some { cls := .ref C, dict := some dx, data := .fields #[.ref t1, .none, .none, .none, .bool false, .none] }
  dbig : h.objs.size ≤ dx
  dne : dx ≠ x
  ns : h'.Ns1 dx (fun y => if y = f then some v else none)
structure OwnMade (f : Str) (h h' : Heap) (e C d : Addr) (v : Value) : Prop where
  keep : ∀ b o, h.get? b = some o → h'.get? b = some o
  new : h.objs.size ≤ e
  obj : ∃ oe vs, h'.get? e = some oe ∧ oe.cls = .ref C ∧ oe.dict = some d ∧ oe.data = .fields vs ∧ vs[1]? = some .none
  dbig : h.objs.size ≤ d
  dne : d ≠ e
  ns : h'.Ns1 d (fun y => if y = f then some v else none)
section
variable {prog : Program} {w : World} {A : Around} {E : Value → Shared → Prop} {R : Result → Shared → Prop} {s : Shared} {K : PySem.W.Frag} {mg : Str → Option Value} {C : Addr} {cn f : Str}
theorem xc_made (T : XCls K mg cn f C) (hf : XF f) {v : Value} (X : K.In s.heap) (hlim : s.heap.NoLimit) (hroom : A.depth + 1 < recursionLimit)
    (hq : ∀ h' tk e d, OwnMade f s.heap h' e C d v → R (.ok (.ret (.ref e))) { s with heap := h', toks := tk }) :
    codeAny (model prog w) A (.call (.ref C) ⟨[v], []⟩) R s := by
  obtain ⟨nm, q, N, bs, bm, sn, sub, ab, col, dd, k0, k1, k2, k3, k5, hC, hbm⟩ := T.cls
  obtain ⟨fI, iC, tC, oc, od, doc, pm, an, cdv, ct, osl, p1, p2, q1, q2, q3, q4, qi, ho, hcd⟩ := T.ini
  have hcl : PySem.W.clsIn K C = some { name := nm, bases := bs, mro := .ref C :: bm, ns := N, qualname := q, hasDict := true, slotNames := sn, subclasses := sub, abstract := ab, collection := col, hasDel := false } := by unfold PySem.W.clsIn; rw [hC] <;> rfl
  have low_init : ∀ {A : Around} {R : Result → Shared → Prop} {s : Shared} {x t0 : Addr} {v : Value}, K.In s.heap → s.heap.NoLimit → s.heap.get? x = some (excO C t0) → A.depth < recursionLimit →
      (∀ h' tk dx, InitEnd f s.heap h' x C dx t0 v → R (.ok (.ret .none)) { s with heap := h', toks := tk }) → codeAny (model prog w) A (.call (.ref fI) ⟨[.ref x, v], []⟩) R s := by
    intro A R s x t0 v X hlim hx hroom hq
    refine Att.call_fn (binds := [(("self" : Str), Value.ref x), (f, v)]) X hlim ho hcd hroom (BindsTo.of_eq (hf.bnd _ _ _ _ _ _ _ _ _ _ _ _ _ _)) (hf.kind _ _) (fun s₁ IC => ?_) rfl rfl rfl
    obtain ⟨h₁, tk₁, rfl⟩ := IC.toInCall.same
    have k : ∀ b o, s.heap.get? b = some o → h₁.get? b = some o := IC.toInCall.keep
    have hn := IC.toInCall.ns
    have hxL : s.heap.objs.size ≠ x := Nat.ne_of_gt (Heap.lt_size hx)
    have X₁ : K.In h₁ := X.keeps k
    have hx₁ := k _ _ hx
    show wpAny _ _ (execs _ _) _ _ _
    refine wpAny_execs_cons (plainObj_wpAny_Assign_Attribute ?_)
    refine ldC (v := v) hn (hf.mf _ _ _ _ _ _) (ldC (v := .ref x) hn (hf.ms _ _ _ _ _ _) ?_ rfl (hf.ls _ _ _ _) (by decide)) rfl (hf.lf _ _ _ _) hf.db
    refine PySem.W.set_plain X₁ (ox := excO C t0) (od := none) ⟨hx₁, rfl, rfl, trivial⟩ T.sa ?_
    refine exc_osa X₁ hx₁ hcl (show refsVE (.ref C :: bm) = true from hbm) rfl T.noN (fun h₃ tk₃ dx k₃ dn dne hx₃ hn₃ => ?_)
    show wpAny _ _ (execs _ _) _ _ _
    have z : s.heap.objs.size < h₁.objs.size := hn.lt
    exact wpAny_execs_nil (hq h₃ tk₃ dx ⟨fun b o hb e => k₃ b o hb (k b o e), hx₃, Nat.le_of_lt (Nat.lt_of_lt_of_le z dn), dne, hn₃⟩)
  obtain ⟨hp, g, dr, tk, os⟩ := s
  have k : ∀ b o, hp.get? b = some o → ((hp.push (PySem.W.kdv_tup [v])).push (excO C hp.objs.size)).get? b = some o := fun b o e => Heap.get?_push_of_some _ (Heap.get?_push_of_some _ e)
  have hget : ((hp.push (PySem.W.kdv_tup [v])).push (excO C hp.objs.size)).get? (hp.objs.size + 1) = some (excO C hp.objs.size) := by heap_get
  refine call_own F.excBase_ValueError (fun X => refsVE_contains X bm hbm) (X _ _ hC) (PySem.W.looks_findIn X iC) (fun self => PySem.W.bind_fn X self tC) (one_size v) ?_
  refine low_init (s := ⟨(hp.push (PySem.W.kdv_tup [v])).push (excO C hp.objs.size), g, dr, tk, os⟩) (X.keeps k) (hlim.keeps k) hget ?_ fun h' tk' dx ⟨k', hx, dn, dne, hns⟩ => ?_
  · show A.depth + 1 < recursionLimit
    exact hroom
  · have old : ∀ b o, hp.get? b = some o → h'.get? b = some o := fun b o e => k' b o (Nat.ne_of_lt (Nat.lt_succ_of_lt (Heap.lt_size e))) (k b o e)
    have z : hp.objs.size + 1 + 1 ≤ dx := by
      first
        | (simpa only [Heap.size_push] using dn)
        | exact dn
        | (have q := dn; rw [Heap.size_push, Heap.size_push] at q; exact q)
    exact ⟨rfl, hq h' tk' (hp.objs.size + 1) dx ⟨old, Nat.le_succ _, ⟨_, _, hx, rfl, rfl, rfl, rfl⟩, Nat.le_trans (Nat.le_trans (Nat.le_succ _) (Nat.le_succ _)) z, dne, hns⟩⟩
end
theorem relO_one {f : Str} {v : V} {v' : Value} (r : RelV v v') (g : Str) : RelO (List.lookup g [(f, v)]) (if g = f then some v' else none) := by
  by_cases hw : g = f
  · subst hw
    rw [if_pos rfl]
    have q : List.lookup g [(g, v)] = some v := by simp [List.lookup]
    rw [q]
    exact r
  · rw [if_neg hw]
    have qw : (g == f) = false := by simpa using hw
    have q2 : List.lookup g [(f, v)] = none := by simp [List.lookup, qw]
    rw [q2]
    trivial
def tMkX (f : Str) (C : Addr) (ta : TA) : L2.St → Hp → XK → Prop := fun σ H Q => ta σ H fun vs H1 => ∃ v, vs = [v] ∧ ∀ d, H1 d = none → Q (.ref C) (some d) (upd H1 d (.xd [(f, v)]))
theorem pmk_x {X : Cx} {C : Addr} {cn f : Str} {a : Expr} {ta : TA} {p pos : Pos} {k : Nat} (T : XCls X.K X.mg cn f C) (hf : XF f) (hr : Room (k + 1) X.A) (ha : PA X [a] ta) (hg : Gl X cn) (hcn : (cn == ("__debug__" : Str)) = false)
    (he : starEach (a :: []) X.env = (false, eval a X.env) :: starEach [] X.env) (hpl : (backTo pos (starEach [] X.env)).any (·.1) = false) :
    PMk X (.Call (.Name cn p) [a] [] pos) (tMkX f C ta) := by
  intro pins s σ H Q I h
  refine wpAny_Call_Name_kw (ld_glob I hg T.gC ?_ hcn)
  refine PySem.W.callWith_K (h₀ := X.base) I.ok.mod.kin T.kC (thn (ha.run pos pins s σ H _ I h) fun us s1 hh => ?_) he hpl
  obtain ⟨vs, H1, I1, r1, v, ev, q1⟩ := hh
  subst ev
  refine ⟨I1.kIn, ?_⟩
  cases r1 with
  | cons rv rn =>
    rename_i v' us'
    cases rn
    show wpAny _ _ (call (.ref C) [v']) _ _ _
    have hlim := I1.nolimit
    obtain ⟨hp, g, dr, tk, os⟩ := s1
    refine wpAny_call (xc_made T hf I1.kIn hlim (by have := hr.dp; omega) fun h' tk' e d M => ?_)
    show MkP X pins σ Q (.ref e) ⟨h', g, dr, tk', os⟩
    obtain ⟨oe, fv, hoe, hc, hd, hdat, h1⟩ := M.obj
    have hns := M.ns
    obtain ⟨G', g1, g2⟩ := restrict h' fun b => decide (b ≠ e)
    have gk : ∀ b, b ≠ e → G'.get? b = h'.get? b := fun b hb => g1 b (decide_eq_true hb)
    have ge : G'.get? e = none := g2 e (by simp)
    have old : ∀ b o, hp.get? b = some o → G'.get? b = some o := fun b o q => (gk b (Nat.ne_of_lt (Nat.lt_of_lt_of_le (Heap.lt_size q) M.new))).trans (M.keep b o q)
    have ob : ObjOk X.prog X.w (upd H1 d (.xd [(f, v)])) G' d (.xd [(f, v)]) :=
      ⟨_, hns.at (fun o q => (gk d M.dne).trans q), fun y => relO_one rv y⟩
    have J : Inv X pins σ (upd H1 d (.xd [(f, v)])) ⟨G', g, dr, tk', os⟩ := I1.laid (t' := tk') old M.dbig ob
    refine ⟨e, oe, fv, ⟨G', g, dr, tk', os⟩, _, .ref C, some d, rfl, J, fun b o q => ?_, ge, hoe, ⟨hc, hd⟩, hdat, h1, ?_, rfl, I1.bare, raises_own T.x.hs T.tyC, q1 d (I1.hok.fresh M.dbig)⟩
    · by_cases hb : b = e
      · have q' : G'.get? b = some o := q
        rw [hb, ge] at q'; cases q'
      · exact (gk b hb).symm.trans q
    · rw [upd_ne (Ne.symm M.dne)]
      exact I1.hok.fresh M.new
variable [Tb]
section
variable {c : CxD} {B : Bs} {e a b : Expr} {ss rest : List Stmt} {sl sl1 : List Sl} {p : Bool} {pos p1 pos2 : Pos} {R : Rt} {d : PyData} {cn f : Str} {C : Addr}
/-- raise C(e) -/
theorem go_raise (T : XCls c.K c.mg cn f C) (h : EV c B a sl p (.st d) sl1) (hr : R.ex ⟨cn, some (f, d)⟩ sl1) (hlv : 1 ≤ c.lv := by exact Nat.le_of_ble_eq_true rfl) (hf : XF f := by exact ⟨by decide, by decide, fun _ _ _ _ _ _ _ _ _ _ _ _ _ _ => rfl, fun _ _ => rfl, fun _ _ _ _ => rfl, fun _ _ _ _ => rfl, fun _ _ _ _ _ _ => rfl, fun _ _ _ _ _ _ => rfl⟩) (hcn : (cn == ("__debug__" : Str)) = false := by decide) (hg : c.sc.names.lookup cn = some .globalImplicit := by rfl)
    (he : ∀ env, starEach (a :: []) env = (false, eval a env) :: starEach [] env := by intro _; rfl) (hpl : ∀ env, (backTo pos (starEach [] env)).any (·.1) = false := by intro _; rfl) : GO c B (.Raise (some (.Call (.Name cn p1) [a] [] pos)) none pos2 :: rest) sl R := by
  obtain ⟨ta, ga, sa⟩ := av_cons h (av_nil (sl := sl1)) rfl he
  refine go_cons (M := fun _ => False) ⟨fun _ σ H => tMkX f C ta σ H fun cls d H' => c.W cls d σ H', fun X hX => ps_raise hX.calm hX.tk (pmk_x (k := c.lv - 1) (by rw [hX.hK, hX.hm]; exact T) hf (hX.rm.mono (by omega)) (ga X hX) (hX.g cn hg) hcn (he _) (hpl _)), fun S H σ I D q => ?_⟩ fun _ h => h.elim
  refine sa S H σ I _ fun vs S1 H1 I1 a1 x1 => ?_
  obtain ⟨v, rfl, hv⟩ := one_arg x1
  refine ⟨v, rfl, fun dx hdx => ?_⟩
  obtain ⟨I2, a2⟩ := I1.laid2 (o := .xd [(f, v)]) hdx
  exact q.ex _ _ σ sl1 (.ref C) (some dx) ⟨cn, some (f, d)⟩ (a1.s.trans a2.s) I2 ⟨C, T.gC, rfl, dx, v, rfl, upd_same, Tr.mono a2.s hv⟩ hr
end
theorem xf_index : XF "index" := ⟨by decide, by decide, fun _ _ _ _ _ _ _ _ _ _ _ _ _ _ => rfl, fun _ _ => rfl, fun _ _ _ _ => rfl, fun _ _ _ _ => rfl, fun _ _ _ _ _ _ => rfl, fun _ _ _ _ _ _ => rfl⟩
end Mw

/-! NwX: try: .. except .. as e: v = e. -/
namespace Mw
open PySem PySem.Spec L2
variable [Tb]
/-- the caught exception is known from now on -/
theorem Inv.tell {X : Cx} {pins : List (Addr × Obj)} {σ : L2.St} {H : Hp} {s : Shared} {a C : Addr} {oe : Obj} {d : Option Addr} (I : Inv X (pins ++ [(a, oe)]) σ H s) (hz : Zc (.ref C) d oe) (hf : ∃ vs, oe.data = .fields vs) (h0 : X.s_0.heap.get? a = none) (hp : ∀ p ∈ X.pn ++ pins, p.1 ≠ a) : Inv X pins σ (upd H a (exO a C d)) s := by
  obtain ⟨ha, nH, nL, nF, nC⟩ := I.pin (a, oe) (by simp)
  have ne : ∀ {b : Addr} {o : HO}, H b = some o → b ≠ a := fun e => ne_of_none e nH
  refine ⟨I.ok, I.os, I.bare, ⟨I.base.keep, I.base.slot, fun b o e n hx => ?_, I.base.there, fun b xs e => ?_, fun b o u e => ?_, fun b ps e => ?_⟩, I.loc, I.cell, ?_, fun x c e => ?_, fun p hp2 => ?_, fun b o e => ?_, I.len⟩
  · rw [upd_ne fun z => by rw [z, h0] at e; cases e]
    exact I.base.free b o e n hx
  · have := I.base.tups b xs e
    rw [upd_ne (ne this)]; exact this
  · have := I.base.frzs b o u e
    rw [upd_ne (ne this)]; exact this
  · obtain ⟨more, this⟩ := I.base.tbls b ps e
    exact ⟨more, by rw [upd_ne (ne this)]; exact this⟩
  · rw [upd_ne (Ne.symm nL)]; exact I.free
  · have hca : c ≠ a := fun z => by
      obtain ⟨v, o, ho, hd⟩ := I.cell x c e
      rw [z] at ho
      have h2 : s.heap.get? a = some oe := ha
      rw [h2] at ho
      cases ho
      exact nC v hd
    rw [upd_ne hca]; exact I.freeC x c e
  · obtain ⟨q1, q2, q3, q4, q5⟩ := I.pin p (by rw [← List.append_assoc]; exact List.mem_append_left _ hp2)
    exact ⟨q1, by rw [upd_ne (hp p hp2)]; exact q2, q3, q4, q5⟩
  · by_cases hb : b = a
    · subst hb
      rw [upd_same] at e
      cases e
      obtain ⟨vs, hv⟩ := hf
      exact ⟨⟨oe, vs, ha, hz, hv⟩, ⟨oe, ha⟩, fun h1 h2 ⟨oe', vs', q1, q2, q3⟩ st => ⟨oe', vs', st _ q1, q2, q3⟩⟩
    · rw [upd_ne hb] at e
      exact (I.hok b o e).stay (fun c v _ q => q) (fun c q => by rw [upd_ne (ne q)]; exact q) fun c xs q => by rw [upd_ne (ne q)]; exact q
/-- a test of an except clause: the classes by name -/
def XTest (c : CxD) (t : Expr) (ns : List Str) : Prop :=
  ∀ (X : Cx), InCx c X → ∀ (a : Addr) (pn pins : List (Addr × Obj)) (σ : L2.St) (H : Hp) (s : Shared) (cls : Value) (Cs : List Addr) (b : Bool) (Q : Bool → Shared → Prop) (E : Value → Shared → Prop),
    Inv (X.suite a pn) pins σ H s → Paired (fun n C => c.mg n = some (.ref C)) ns Cs → PySem.W.exmAny c.K cls (Cs.map .ref) = some b → PySem.W.Looks (model X.prog X.w) s.heap (typeOf (.ref a)) cls →
    (∀ h', (∀ q o, s.heap.get? q = some o → h'.get? q = some o) → Q b { s with heap := h' }) →
    wpAny (model X.prog X.w) (X.A.mark (some (.ref a))) (eval t X.env) (fun cv s₁ => wpAny (model X.prog X.w) (X.A.mark (some (.ref a))) (excMatches (.ref a) cv) Q E s₁) E s
section
variable {c : CxD} {x x1 x2 x3 x4 x5 x6 : Str} {np p1 p2 p3 p4 p5 p6 tp : Pos} {kk : Nat}
theorem xn {X : Cx} (hX : InCx c X) {a : Addr} {pn pins : List (Addr × Obj)} {σ : L2.St} {H : Hp} {s : Shared} (I : Inv (X.suite a pn) pins σ H s) {C : Addr} {Q : Value → Shared → Prop} {E : Value → Shared → Prop} (hg : c.sc.names.lookup x = some .globalImplicit) (hm : c.mg x = some (.ref C)) (hd : (x == ("__debug__" : Str)) = false) (q : Q (.ref C) s) :
    wpAny (model X.prog X.w) (X.A.mark (some (.ref a))) (eval (.Name x np) X.env) Q E s :=
  ld_glob (X := X.suite a pn) I (hX.g x hg) (by show X.mg x = _; rw [hX.hm]; exact hm) q hd
theorem xt_name (hg : c.sc.names.lookup x = some .globalImplicit := by rfl) (hd : (x == ("__debug__" : Str)) = false := by decide) : XTest c (.Name x np) [x] := by
  intro X hX a pn pins σ H s cls Cs b Q E I hC hx LT q
  cases hC with
  | cons h1 hC =>
    cases hC
    obtain ⟨b1, d1, e1, e2, rfl⟩ := PySem.W.exmAny_cons hx
    have e2 : some false = some d1 := e2
    cases e2
    rw [Bool.or_false] at q
    rw [← hX.hK] at e1
    exact xn hX I hg h1 hd ((PySem.W.exm_one I.kIn LT e1).here (q s.heap fun _ _ z => z))
theorem xt_tup2 (g1 : c.sc.names.lookup x1 = some .globalImplicit := by rfl) (g2 : c.sc.names.lookup x2 = some .globalImplicit := by rfl) (d1 : (x1 == ("__debug__" : Str)) = false := by decide) (d2 : (x2 == ("__debug__" : Str)) = false := by decide) : XTest c (.Tuple [.Name x1 p1, .Name x2 p2] kk tp) [x1, x2] := by
  intro X hX a pn pins σ H s cls Cs b Q E I hC hx LT q
  cases hC with
  | cons h1 hC =>
  cases hC with
  | cons h2 hC =>
    cases hC
    rw [← hX.hK] at hx
    refine wpAny_Tuple ?_
    refine wpAny_items_cons (xn hX I g1 h1 d1 ?_)
    refine wpAny_items_cons (xn hX I g2 h2 d2 ?_)
    refine wpAny_items_nil ⟨by size_fits, ?_⟩
    have kp : ∀ (C : List Value) (q : Addr) (o : Obj), s.heap.get? q = some o → (s.heap.push { cls := .type "tuple", data := .seq C.toArray }).get? q = some o := fun _ _ _ z => Heap.get?_push_of_some _ z
    exact (PySem.W.exm_tup2 (I.kIn.keeps (kp _)) (LT.keeps (kp _)) (Heap.get?_push_size s.heap rfl) hx).here (q _ (kp _))
theorem xt_tup3 (g1 : c.sc.names.lookup x1 = some .globalImplicit := by rfl) (g2 : c.sc.names.lookup x2 = some .globalImplicit := by rfl) (g3 : c.sc.names.lookup x3 = some .globalImplicit := by rfl) (d1 : (x1 == ("__debug__" : Str)) = false := by decide) (d2 : (x2 == ("__debug__" : Str)) = false := by decide) (d3 : (x3 == ("__debug__" : Str)) = false := by decide) : XTest c (.Tuple [.Name x1 p1, .Name x2 p2, .Name x3 p3] kk tp) [x1, x2, x3] := by
  intro X hX a pn pins σ H s cls Cs b Q E I hC hx LT q
  cases hC with
  | cons h1 hC =>
  cases hC with
  | cons h2 hC =>
  cases hC with
  | cons h3 hC =>
    cases hC
    rw [← hX.hK] at hx
    refine wpAny_Tuple ?_
    refine wpAny_items_cons (xn hX I g1 h1 d1 ?_)
    refine wpAny_items_cons (xn hX I g2 h2 d2 ?_)
    refine wpAny_items_cons (xn hX I g3 h3 d3 ?_)
    refine wpAny_items_nil ⟨by size_fits, ?_⟩
    have kp : ∀ (C : List Value) (q : Addr) (o : Obj), s.heap.get? q = some o → (s.heap.push { cls := .type "tuple", data := .seq C.toArray }).get? q = some o := fun _ _ _ z => Heap.get?_push_of_some _ z
    exact (PySem.W.exm_tup3 (I.kIn.keeps (kp _)) (LT.keeps (kp _)) (Heap.get?_push_size s.heap rfl) hx).here (q _ (kp _))
theorem xt_tup4 (g1 : c.sc.names.lookup x1 = some .globalImplicit := by rfl) (g2 : c.sc.names.lookup x2 = some .globalImplicit := by rfl) (g3 : c.sc.names.lookup x3 = some .globalImplicit := by rfl) (g4 : c.sc.names.lookup x4 = some .globalImplicit := by rfl) (d1 : (x1 == ("__debug__" : Str)) = false := by decide) (d2 : (x2 == ("__debug__" : Str)) = false := by decide) (d3 : (x3 == ("__debug__" : Str)) = false := by decide) (d4 : (x4 == ("__debug__" : Str)) = false := by decide) : XTest c (.Tuple [.Name x1 p1, .Name x2 p2, .Name x3 p3, .Name x4 p4] kk tp) [x1, x2, x3, x4] := by
  intro X hX a pn pins σ H s cls Cs b Q E I hC hx LT q
  cases hC with
  | cons h1 hC =>
  cases hC with
  | cons h2 hC =>
  cases hC with
  | cons h3 hC =>
  cases hC with
  | cons h4 hC =>
    cases hC
    rw [← hX.hK] at hx
    refine wpAny_Tuple ?_
    refine wpAny_items_cons (xn hX I g1 h1 d1 ?_)
    refine wpAny_items_cons (xn hX I g2 h2 d2 ?_)
    refine wpAny_items_cons (xn hX I g3 h3 d3 ?_)
    refine wpAny_items_cons (xn hX I g4 h4 d4 ?_)
    refine wpAny_items_nil ⟨by size_fits, ?_⟩
    have kp : ∀ (C : List Value) (q : Addr) (o : Obj), s.heap.get? q = some o → (s.heap.push { cls := .type "tuple", data := .seq C.toArray }).get? q = some o := fun _ _ _ z => Heap.get?_push_of_some _ z
    exact (PySem.W.exm_tup4 (I.kIn.keeps (kp _)) (LT.keeps (kp _)) (Heap.get?_push_size s.heap rfl) hx).here (q _ (kp _))
end
theorem flying_keep {B h h' : Heap} {l : List Env} {a : Addr} {Z : Obj → Prop} (x : HandSPX.FlyingZ B l a Z h) (k : ∀ q o, h.get? q = some o → h'.get? q = some o) : HandSPX.FlyingZ B l a Z h' := by
  obtain ⟨k1, k2, k3, oe, vs, T, oT, ts, he, hz, hd, h1, hn, hne, hT, hdT, h3⟩ := x
  exact ⟨fun b o e => k _ _ (k1 b o e), k2, k3.of_keeps fun b o e _ => ⟨o, k _ _ e, rfl⟩, oe, vs, T, oT, ts, k _ _ he, hz, hd, h1, hn, hne, k _ _ hT, hdT, h3⟩
theorem upto_keep {h h' : Heap} (k : ∀ q o, h.get? q = some o → h'.get? q = some o) : h.UpToSlots h' := fun b o e _ => ⟨o.slots, k _ _ e⟩
section
variable {c : CxD} {X : Cx} {x y : Str} {i j : Nat} {t : Expr} {ns : List Str} {Cs : List Addr} {body : List Stmt} {yp xp ap pos pos' : Pos}
theorem ps_catch (hX : InCx c X) (htop : c.top = true) (ht : XTest c t ns) (hC : Paired (fun n C => c.mg n = some (.ref C)) ns Cs) (hN : X.N.Nodup) (hi : X.N[i]? = some x) (hj : X.N[j]? = some y) (hln : X.env.kindOf x = some .local) (hly : Loc X.env.scope y) (hfy : X.fn y = true ∨ X.env.scope.names.lookup y = some .local) (hvx : Vis X.env.scope x) (hdx : (x == ("__debug__" : Str)) = false) (hcd : (x == ("__classdict__" : Str)) = false)
    (hsw : swapsWith (.Name x xp) (some (.Name y yp)) ap.line X.env = pure false := by rfl) :
    PS X (.Try body [.ExceptHandler (some t) (some x) [.Assign [.Name y yp] (.Name x xp) ap] pos'] [] [] pos) (fun D σ H => ∃ W : WX, (∀ cls d σ' H', W cls d σ' H' → ∃ C : Addr, cls = .ref C ∧ PySem.W.exmAny c.K cls (Cs.map .ref) = some true ∧ ∀ a, H' a = none → D.nx (((σ'.set i (some (.ref a))).set j (some (.ref a))).set i none) (upd H' a (exO a C d))) ∧ rB { c with W := W } body D σ H) := by
  obtain ⟨hs, hf, hex⟩ := hX.tp htop
  refine ⟨fun pins s σ H D I h => ?_⟩
  obtain ⟨W, hW, h⟩ := h
  have ok := I.ok
  have hfr : X.A.frames = some (X.env :: X.outer) := by rw [ok.frames, hs]
  have hloc : Loc X.env.scope x := .inl hln
  refine wpAny_Try_except ?_
  have hcx : ∀ (pn : List (Addr × Obj)) (xe : Value → Shared → Prop), Takes (X.tr pn xe) W → PassesOwn (model X.prog X.w) X.A X.env xe → InCx { c with W := W } (X.tr pn xe) := fun pn xe tk po => ⟨hX.hP, hX.hw, hX.hK, hX.hm, hX.hb, hX.hN, hX.calm, hX.kind, hX.gu, hX.rm, hX.v, hX.l, hX.g, hX.f, hX.fn, po, tk, hX.tp, hX.cd, hX.ql, fun pn2 xe2 => hX.xt pn2 xe2⟩
  refine wpAny_mono ((ps_rB (hcx (X.pn ++ pins) (fun e s₁ => wpAny (model X.prog X.w) X.A (noteFrame e X.env) (fun _ s₂ => wpAny (model X.prog X.w) X.A (setFlight e none) (fun _ s₃ =>
    wpAny (model X.prog X.w) X.A (handleBy e X.env [.ExceptHandler (some t) (some x) [.Assign [.Name y yp] (.Name x xp) ap] pos']) (SP X pins D) X.xe s₃) X.xe s₂) X.xe s₁) (fun u s' xx => ?_) PassesOwn.looking)).run [] s σ H D (I.toTry _) h) (fun f s1 hsp => ?_) (fun e s1 he => he)
  · obtain ⟨a, B, sI, pins', σ', H', cls, d, rfl, J', nb, up, sky, na, os, ag, w⟩ := xx
    obtain ⟨C, rfl, hb1, hyes⟩ := hW _ _ _ _ w
    have J : Inv X pins σ' H' sI := J'.ofTry ok
    have sky' : Sky B (X.env :: X.outer) a (Zc (.ref C) d) X.env.locals s'.heap := by rw [← hs]; exact sky
    show wpAny (model X.prog X.w) X.A (noteFrame (.ref a) X.env) _ _ _
    refine Sky.land Zc.steady hfr hf sky' fun h3 fl3 up3 => ?_
    have J3 : Inv X pins σ' H' { s' with heap := h3 } := J.landed nb fl3.1 (up.trans up3) os ag
    obtain ⟨oe3, vs3, he3, hz3, hd3⟩ := fl3.there
    have notFr : ∀ {h : Heap} {o : Obj} {vs : Array Value}, h.FunFrames B (X.env :: X.outer) → h.get? a = some o → o.data = .fields vs → a ∉ frs (X.env :: X.outer) := fun {h o vs} ff e dd hm => by
      obtain ⟨_, o', e', hnf⟩ := ff.mem hm
      rw [e] at e'; cases e'
      exact hnf _ dd
    have nfr := notFr fl3.2.2.1 he3 hd3
    have nL : a ≠ X.env.locals := fun z => nfr (List.mem_filterMap.mpr ⟨X.env, List.mem_cons_self, by rw [hf, z]⟩)
    have nF : a ∉ X.fs := fun hm => by
      obtain ⟨e, he, q⟩ := List.mem_filterMap.mp hm
      exact nfr (List.mem_filterMap.mpr ⟨e, List.mem_cons_of_mem _ he, q⟩)
    have naI : sI.heap.get? a = none := by
      cases e : sI.heap.get? a with
      | none => rfl
      | some o =>
        have q := nb a o e (by show a ∉ frs X.stack; rw [hs]; exact nfr)
        rw [fl3.2.1] at q
        cases q
    have na0 : X.s_0.heap.get? a = none := by
      cases e : X.s_0.heap.get? a with
      | none => rfl
      | some o =>
        obtain ⟨o', q⟩ := J.base.there a o e (by rw [hex]; simp)
        rw [naI] at q
        cases q
    have npin : ∀ p ∈ X.pn ++ pins, p.1 ≠ a := fun p hp z => by
      have q := (J.pin p hp).1
      rw [z, naI] at q
      cases q
    have S3 := J3.suite he3 hd3 na nL nF
    refine wpAny_handleBy_cons (codeAny_handlers_test ?_) (by intro q; cases q)
    have LT : PySem.W.Looks (model X.prog X.w) h3 (typeOf (.ref a)) (.ref C) := fun A Q E s k q => wpAny_typeOf_ref (k _ _ he3) (by rw [hz3.1]; exact q)
    refine ht X hX a _ [] σ' H' { s' with heap := h3 } (.ref C) Cs true _ _ S3 hC hb1 LT fun h3' k3 => ?_
    refine codeAny_handlers_suite_as ?_
    have fl3' := flying_keep fl3 k3
    refine HandSPX.lands_againZ (s := { s' with heap := h3' }) fl3' fun h4 fl4 up4 => ?_
    have up4' := (up3.trans (upto_keep k3)).trans up4
    have J4 : Inv X pins σ' H' { s' with heap := h4 } := J.landed nb fl4.1 (up.trans up4') os ag
    obtain ⟨oe4, vs4, he4, hz4, hd4⟩ := fl4.there
    have S4 := J4.suite he4 hd4 na nL nF
    refine store_ok (X := X.suite a ((a, oe4) :: (X.pn ++ pins))) (v := .ref a) S4 hN hi hloc rfl (fun s5 S5 => ?_) (.inr hln)
    have gsu : PSs (X.suite a ((a, oe4) :: (X.pn ++ pins))) [.Assign [.Name y yp] (.Name x xp) ap] (tAsg (tVar i) (gName j)) := pss_one (ps_set (X := X.suite a ((a, oe4) :: (X.pn ++ pins))) hN hj hly (pe_var hi hvx hdx hcd) hsw hfy)
    have iσ : (σ'.set i (some (V.ref a)))[i]? = some (some (V.ref a)) := by
      rw [List.getElem?_set_self]
      rw [J.len]; exact (List.getElem?_eq_some_iff.mp hi).1
    refine wpAny_mono (gsu.run [] s5 _ H' { nx := fun σ6 H6 => σ6 = (σ'.set i (some (V.ref a))).set j (some (V.ref a)) ∧ H6 = H', rt := fun _ _ => False } S5 ⟨_, iσ, rfl, rfl⟩) (fun f s6 hsp => ?_) (fun _ _ z => False.elim z)
    cases f with
    | next =>
      obtain ⟨σ6, H6, S6, rfl, rfl⟩ := hsp
      have U6 : Inv X (pins ++ [(a, oe4)]) ((σ'.set i (some (V.ref a))).set j (some (V.ref a))) H6 s6 :=
        ⟨ok, S6.os, S6.bare, S6.base, S6.loc, S6.cell, S6.free, S6.freeC, fun p hp => S6.pin p (by
          show p ∈ ((a, oe4) :: (X.pn ++ pins)) ++ []
          simp only [List.mem_append, List.mem_cons, List.not_mem_nil, or_false] at hp ⊢
          rcases hp with h | h | h
          · exact .inr (.inl h)
          · exact .inr (.inr h)
          · exact .inl h), S6.hok, S6.len⟩
      refine gone_ok U6 hN hi hln fun s7 J7 => ⟨_, _, Inv.tell J7 hz4 ⟨_, hd4⟩ na0 npin, hyes a na⟩
    | brk =>
      obtain ⟨_, _, _, q6⟩ := hsp
      exact False.elim q6
    | cont =>
      obtain ⟨_, _, _, q6⟩ := hsp
      exact False.elim q6
    | ret u =>
      obtain ⟨_, _, _, _, _, q6⟩ := hsp
      exact False.elim q6
  · cases f with
    | next =>
      obtain ⟨σ', H', J', q⟩ := hsp
      exact wpAny_execs_nil ⟨σ', H', J'.ofTry ok, q⟩
    | brk =>
      obtain ⟨σ', H', J', q⟩ := hsp
      exact ⟨σ', H', J'.ofTry ok, q⟩
    | cont =>
      obtain ⟨σ', H', J', q⟩ := hsp
      exact ⟨σ', H', J'.ofTry ok, q⟩
    | ret u =>
      obtain ⟨v, σ', H', J', r, q⟩ := hsp
      exact ⟨v, σ', H', J'.ofTry ok, r, q⟩
end
section
variable {c : CxD} {B : Bs} {x y : Str} {t : Expr} {ns : List Str} {body rest : List Stmt} {yp xp ap pos pos' : Pos} {sl sl1 : List Sl} {R : Rt}
/-- which classes of the program's own a clause catches -/
def Catch (c : CxD) (ns : List Str) : Prop := ∃ Cs : List Addr, Paired (fun n C => c.mg n = some (.ref C)) ns Cs ∧ ∀ n ∈ ns, ∀ C : Addr, c.mg n = some (.ref C) → PySem.W.exmAny c.K (.ref C) (Cs.map .ref) = some true
/-- try: body / except t as x: y = x -/
theorem g1_try (i j : Nat) (ht : XTest c t ns) (hC : Catch c ns) (hb : ∀ W, GO { c with W := W } B body sl { R with ex := fun z s => z.cls ∈ ns ∧ (s[i]?).isSome = true ∧ (s[j]?).isSome = true ∧ ∀ C : Addr, c.mg z.cls = some (.ref C) → R.nx ((s.set j (.val (excD C z.fld))).set i .no) }) (htop : c.top = true := by rfl) (nd : c.N.Nodup := by assumption) (hi : c.N[i]? = some x := by rfl) (hj : c.N[j]? = some y := by rfl) (hij : i ≠ j := by decide) (hx : c.sc.names.lookup x = some .local := by rfl) (hy : c.sc.names.lookup y = some .local ∨ c.sc.names.lookup y = some .cell := by first | exact .inl rfl | exact .inr rfl)
    (hdx : (x == ("__debug__" : Str)) = false := by decide) (hcd : (x == ("__classdict__" : Str)) = false := by decide) (hsw : ∀ env, swapsWith (.Name x xp) (some (.Name y yp)) ap.line env = pure false := by intro _; rfl) :
    G1 c B (.Try body [.ExceptHandler (some t) (some x) [.Assign [.Name y yp] (.Name x xp) ap] pos'] [] [] pos) sl R := by
  obtain ⟨Cs, hCs, hm⟩ := hC
  refine ⟨_, fun X hX => ps_catch (i := i) (j := j) (Cs := Cs) hX htop ht hCs (by rw [hX.hN]; exact nd) (by rw [hX.hN]; exact hi) (by rw [hX.hN]; exact hj) (hX.l x hx) (hX.loc hy).1 (hX.loc hy).2 (hX.v x (.inl hx)) hdx hcd (hsw _), fun S H σ I D q => ?_⟩
  refine ⟨fun cls d σ' H' => ∃ S' sl' z, Same S S' ∧ Stt c.K B S' H' σ' sl' ∧ ExnOk c.K c.mg S' cls d z ∧ z.cls ∈ ns ∧ (sl'[i]?).isSome = true ∧ (sl'[j]?).isSome = true ∧ ∀ C : Addr, c.mg z.cls = some (.ref C) → R.nx ((sl'.set j (.val (excD C z.fld))).set i .no), fun cls d σ' H' hw => ?_, ?_⟩
  · obtain ⟨S', sl', z, s1, I1, ⟨C, hC, rfl, hf⟩, hz, hii, hjj, hr⟩ := hw
    refine ⟨C, rfl, hm _ hz C hC, fun a ha => ?_⟩
    obtain ⟨I2, a2⟩ := I1.laid2 (o := exO a C d) ha
    have I3 := I2.put (i := j) (v := .ref a) (.val (excD C z.fld)) ⟨_, rfl, by
      cases e : z.fld with
      | none =>
        rw [e] at hf
        have hf : d = none := hf
        subst hf
        exact .exc0 upd_same
      | some p =>
        obtain ⟨f, d0⟩ := p
        rw [e] at hf
        obtain ⟨dx, v, rfl, h5, h6⟩ := hf
        exact .exc1 upd_same (a2.s _ _ h5) (h6.mono a2.s)⟩ (fun _ m => absurd m fpS_val) hjj
    have I4 := I3.drop i
    have e2 : ((σ'.set i (some (V.ref a))).set j (some (V.ref a))).set i none = (σ'.set j (some (V.ref a))).set i none := by
      rw [List.set_comm _ _ hij, List.set_set]
    rw [e2]
    exact q.nx _ _ _ _ (s1.trans a2.s) I4 (hr C hC)
  · obtain ⟨r, hr, hs⟩ := hb (fun cls d σ' H' => ∃ S' sl' z, Same S S' ∧ Stt c.K B S' H' σ' sl' ∧ ExnOk c.K c.mg S' cls d z ∧ z.cls ∈ ns ∧ (sl'[i]?).isSome = true ∧ (sl'[j]?).isSome = true ∧ ∀ C : Addr, c.mg z.cls = some (.ref C) → R.nx ((sl'.set j (.val (excD C z.fld))).set i .no))
    exact ⟨r, hr, hs S H σ I D ⟨q.nx, q.rt, q.bk, q.ct, fun S' H' σ' sl' cls dx z s I' ok h => ⟨S', sl', z, s, I', ok, h⟩⟩⟩
end
/-! ### what a caught exception tells -/
section
variable {c : CxD} {B : Bs} {e a b : Expr} {sl sl1 : List Sl} {p : Bool} {pos p1 p2 : Pos} {d : PyData} {f cn : Str} {C : Addr}
structure XGet (K : PySem.W.Frag) (C : Addr) (f : Str) : Prop where
  x : XfC K C
  no : PySem.W.findIn K (.ref C) f = some none
theorem pe_xget {X : Cx} {te : TE} (T : XGet X.K C f) (he : PE X e te) (hb : attributeBase e f X.env (eval e X.env) = eval e X.env) :
    PE X (.Attribute e f pos) (fun σ H Q => te σ H fun x H1 => ∃ (a dx : Addr) (v : V), x = .ref a ∧ H1 a = some (exO a C (some dx)) ∧ H1 dx = some (.xd [(f, v)]) ∧ Q v H1) := by
  refine ⟨fun pins s σ H Q I h => ?_⟩
  refine attr_of hb (thn (he.run pins s σ H _ I h) fun u s1 hh => ?_)
  obtain ⟨x, H1, I1, rx, a, dx, v, rfl, ea, ed, q⟩ := hh
  obtain rfl : u = Value.ref a := rx
  have h1 : ObjOk X.prog X.w H1 s1.heap a (exO a C (some dx)) := I1.hok a _ ea
  obtain ⟨⟨oe, vs, ha, hz, hd⟩, _, _⟩ := h1
  have hx : ObjOk X.prog X.w H1 s1.heap dx (.xd [(f, v)]) := I1.hok dx _ ed
  obtain ⟨mA, hns, hr⟩ := hx
  obtain ⟨od, ho, hl⟩ := lookIn_ns hns
  obtain ⟨u, hu, ru⟩ := RelO.some_of (v := v) (o := mA f) (by have := hr f; simpa [List.lookup] using this)
  have J : PySem.W.InstAt s1.heap a oe C (some od) := ⟨ha, hz.1, by unfold PySem.W.notCls; rw [hd] <;> rfl, by rw [hz.2]; exact ho⟩
  exact HandSPX.exc_get I1.kIn J T.x.ga T.x.gg T.x.exC (PySem.W.findObj_own T.x.hdC T.no rfl (by rw [hl, hu])) (handed_of ru) ⟨v, H1, I1.tok _, ru, q⟩
theorem keyD_nn {k : Key} : keyD k ≠ .none := by rcases k with k | k <;> exact fun z => by cases z
theorem tr_exc1 {K : PySem.W.Frag} {S : Hp} {v : V} {C : Addr} {f : Str} {d : PyData} (x : Tr K S v (excD C (some (f, d)))) : ∃ (a dx : Addr) (w : V), v = .ref a ∧ S a = some (exO a C (some dx)) ∧ S dx = some (.xd [(f, w)]) ∧ Tr K S w d := by
  generalize hd : excD C (some (f, d)) = d' at x
  simp only [excD] at hd
  cases x with
  | dct h t =>
    exfalso
    cases t with
    | nil => exact absurd hd (by simp)
    | cons h t =>
      injection hd with hd
      injection hd with hd _
      injection hd with hd _
      exact absurd hd.symm keyD_nn
  | exc1 h hx t =>
    injection hd with hd
    injection hd with h1 h2
    injection h1 with _ h1
    injection h1 with h1
    injection h2 with h2 _
    injection h2 with h2 h3
    injection h2 with h2
    obtain rfl := Int.ofNat.inj h1
    subst h2 h3
    exact ⟨_, _, _, rfl, h, hx, t⟩
  | _ => exact absurd hd (by simp)
/-- e.f, e a caught exception -/
theorem ev_xget (T : XGet c.K C f) (h : EV c B e sl p (.st (excD C (some (f, d)))) sl1) (hb : ∀ env, attributeBase e f env (eval e env) = eval e env := by intro _; rfl) : EV c B (.Attribute e f pos) sl p (.st d) sl1 := by
  obtain ⟨te, ge, se⟩ := h
  refine ⟨_, fun X hX => pe_xget (C := C) (by rw [hX.hK]; exact T) (ge X hX) (hb _), fun S H σ I Q fn => se S H σ I _ fun v S1 H1 I1 a1 x1 _ => ?_⟩
  obtain ⟨a, dx, w, rfl, h, hx, t⟩ := tr_exc1 x1
  exact ⟨_, _, _, rfl, I1.sh _ _ h, I1.sh _ _ hx, fn _ S1 H1 I1 a1 t trivial⟩
end
end Mw

/-! NwY: more statements. -/
namespace Mw
open PySem PySem.Spec L2
variable [Tb]
section
variable {c : CxD} {B : Bs} {e a b elt iter : Expr} {ifs : List Expr} {ss rest : List Stmt} {sl sl1 sl2 : List Sl} {p q z : Bool} {pos p1 p2 : Pos} {R : Rt} {xs : List Int} {scope : Scope}
/-- name = [f(x) for x in xs if ..], xs numbers, the own slot j -/
theorem go_setCN {nm y : Str} {tp : Pos} (i j : Nat) (g : Int → Option Int) (hi : EI c B (.Name nm tp) iter sl p (nums xs) z sl1)
    (hs : ∀ (i : Nat) (x : Int), xs[i]? = some x → ∃ b, TVs (c.blk scope) B ifs ((sl1.set j .no).set j (.val (.int x))) b ∧ (b = true → ∃ y, g x = some y ∧ EV (c.blk scope) B elt ((sl1.set j .no).set j (.val (.int x))) true (.st (.int y)) ((sl1.set j .no).set j (.val (.int x)))) ∧ (b = false → g x = none))
    (hl : xs.length ≤ 1000000) (h2 : GO c B rest (sl1.set i (.own (.lst (nums (xs.filterMap g))))) R) (hg2 : ∀ d, GT (c.blk scope) B (.Name nm tp) d [j] (sl1.set j .no) ((sl1.set j .no).set j (.val d)) := by intro d; exact gt_name _)
    (ok : blkC c.N c.sc scope [(nm, j)] = true := by (try dsimp only [CxD.blk]); decide +kernel) (hii : (sl1[i]?).isSome = true := by rfl) (hN : c.N[i]? = some y := by rfl) (nd : c.N.Nodup := by assumption) (hx : c.sc.names.lookup y = some .local := by rfl) (hk : (scope.names.any fun (n, k) => n == y && (k == .local || k == .cell)) = false := by decide +kernel) (hln : (p1.line == pos.line) = true := by rfl)
    (hf : ∀ env x, foldedSetIterable iter env x = pure x := by intro _ _; rfl) : GO c B (.Assign [.Name y p1] (.ListComp elt [⟨.Name nm tp, iter, ifs, 0⟩] scope pos) p2 :: rest) sl R :=
  go_cons (M := fun s => s = sl1.set i (.own (.lst (nums (xs.filterMap g))))) (g1_setC i [(nm, j)] (liftI g) hi (fun i d hd => by
    obtain ⟨x, hx, rfl⟩ := nums_get hd
    obtain ⟨b, h1, h2, h3⟩ := hs i x hx
    refine ⟨_, _, b, hg2 _, by simp, h1, fun hb => ?_, fun hb => ?_⟩
    · obtain ⟨y, hy, ev⟩ := h2 hb
      exact ⟨.int y, by show (g x).map _ = _; rw [hy]; rfl, ev⟩
    · show (g x).map _ = _; rw [h3 hb]; rfl) (by show _ = _; rw [fm_nums (g := g) fun x => rfl]) (by rw [len_nums]; exact hl) ok hii hN nd hx hk hln hf) fun s h => h ▸ h2
end
theorem inD_none_nums : ∀ xs : List Int, inD .none (nums xs) = false
  | [] => rfl
  | x :: r => inD_none_nums r
theorem cq_int {i : Int} : canEq (.int i) := ⟨rfl, rfl⟩
theorem cq_none : canEq .none := ⟨rfl, rfl⟩
theorem cq_bool {b : Bool} : canEq (.bool b) := ⟨rfl, rfl⟩
end Mw

/-! NwZ: calls that refuse; what a caught exception is. -/
namespace Mw
open PySem PySem.Spec L2
variable [Tb]
/-! ### a promise, narrowed -/
theorem DefOk.imp {P : Program} {w : World} {K : PySem.W.Frag} {mg : Str → Option Value} {base : Heap} {x : Str} {st : Stmt} {ps : List Str} {lv : Nat} {sp sp' : Sp} (h : DefOk P w K mg base x st ps lv sp) (hi : ∀ vs H Q E, sp' vs H Q E → sp vs H Q E) : DefOk P w K mg base x st ps lv sp' := by
  obtain ⟨f, fd, a, b, c, d⟩ := h.ex
  exact ⟨f, fd, a, b, c, d.imp hi⟩
theorem DefOk.good {α β : Type} {pre : α → Prop} {args : α → List Sl} {out : α → Out} {pre' : β → Prop} {args' : β → List Sl} {res' : β → Kd} {P : Program} {w : World} {K : PySem.W.Frag} {mg : Str → Option Value} {base : Heap} {x : Str} {st : Stmt} {ps : List Str} {lv : Nat} (h : DefOk P w K mg base x st ps lv (Prm K mg (PureX pre args out)))
    (hi : ∀ b, pre' b → ∃ a, pre a ∧ args a = args' b ∧ out a = .ret (res' b)) : DefOk P w K mg base x st ps lv (Prm K mg (Pure pre' args' res')) :=
  h.imp fun vs H Q E ⟨S, ls, cs, u, cs', ⟨b, hb, e1, e2, e3⟩, I, q⟩ => by
    obtain ⟨a, h1, h2, h3⟩ := hi b hb
    exact ⟨S, ls, cs, u, cs', ⟨a, h1, e1.trans h2.symm, e2.trans h3.symm, e3⟩, I, q⟩
/-! ### an expression that raises -/
def XV (c : CxD) (B : Bs) (e : Expr) (sl : List Sl) (p : Bool) (z : Exn) (sl1 : List Sl) : Prop :=
  ∃ te, (∀ X, InCx c X → PE X e te) ∧ ∀ S H σ, Stt c.K B S H σ sl → (∀ S' H' cls dx, Adv σ sl S H sl1 S' H' p → Stt c.K B S' H' σ sl1 → ExnOk c.K c.mg S' cls dx z → c.W cls dx σ H') → ∀ Q, te σ H Q
section
variable {c : CxD} {B : Bs} {e a b : Expr} {es : List Expr} {ss rest : List Stmt} {sl sl1 sl2 : List Sl} {p q : Bool} {ks : List Kd} {k : Kd} {pos p1 p2 p3 : Pos} {R : Rt} {z : Exn}
theorem xv_call {α : Type} {pre : α → Prop} {args : α → List Sl} {out : α → Out} {x : Str} {st : Stmt} {ps : List Str} {lv : Nat} {P : Program} {w : World} {K : PySem.W.Frag} {mg : Str → Option Value} {base : Heap} (v : α) (F : DefOk P w K mg base x st ps lv (Prm K mg (PureX pre args out))) (ha : AV c B (e :: es) sl p ks sl1) (hcs : ArgP ks (args v)) (hp : pre v) (hout : out v = .exn z) (hc : DefOk P w K mg base x st ps lv (Prm K mg (PureX pre args out)) → c.Def x st ps lv (Prm c.K c.mg (PureX pre args out)) := by exact fun h => h) (hlv : lv ≤ c.lv := by exact Nat.le_of_ble_eq_true rfl) (hg : c.sc.names.lookup x = some .globalImplicit := by rfl)
    (hdb : (x == ("__debug__" : Str)) = false := by decide) (he : ∀ env, starEach (e :: es) env = (false, eval e env) :: starEach es env := by intro env; rfl) (hpl : ∀ env, (backTo pos (starEach es env)).any (·.1) = false := by intro env; rfl) : XV c B (.Call (.Name x p1) (e :: es) [] pos) sl p z sl1 := by
  obtain ⟨f, fd, hm, hF, hb, G⟩ := (hc F).ex
  obtain ⟨r, hr, hs⟩ := ha
  refine ⟨fun σ H Q => r σ H fun vs H1 => Prm c.K c.mg (PureX pre args out) vs H1 Q fun cls d H' => c.W cls d σ H', fun X hX => pe_callG (by rw [hX.hP, hX.hw, hX.hK, hX.hm, hX.hb]; exact G) (hX.rm.mono hlv) hX.gu hX.tk (hX.g x hg) (by rw [hX.hm]; exact hm) (by rw [hX.hK]; exact hF.kp) (by rw [hX.hK]; exact hb) (hr X hX) hdb (he _) (hpl _), fun S H σ I w Q => ?_⟩
  refine hs S H σ I _ fun vs S1 H1 I1 a1 x1 => ⟨S1, [], args v, .exn z, args v, ⟨v, hp, rfl, hout.symm, rfl⟩, hcs.stt I1 x1, fun cls dx S' H' J hv => ?_⟩
  obtain ⟨I2, a2⟩ := back0 I1 J
  exact w S' H' cls dx ((a1.trans a2).weak fun h => by rw [h]; rfl) I2 hv
theorem ev_callO {α : Type} {pre : α → Prop} {args : α → List Sl} {out : α → Out} {x : Str} {st : Stmt} {ps : List Str} {lv : Nat} {P : Program} {w : World} {K : PySem.W.Frag} {mg : Str → Option Value} {base : Heap} (v : α) (F : DefOk P w K mg base x st ps lv (Prm K mg (PureX pre args out))) (ha : AV c B (e :: es) sl p ks sl1) (hcs : ArgP ks (args v)) (hp : pre v) (hout : out v = .ret k) (hk : okK k = true := by rfl) (hc : DefOk P w K mg base x st ps lv (Prm K mg (PureX pre args out)) → c.Def x st ps lv (Prm c.K c.mg (PureX pre args out)) := by exact fun h => h) (hlv : lv ≤ c.lv := by exact Nat.le_of_ble_eq_true rfl) (hg : c.sc.names.lookup x = some .globalImplicit := by rfl)
    (hdb : (x == ("__debug__" : Str)) = false := by decide) (he : ∀ env, starEach (e :: es) env = (false, eval e env) :: starEach es env := by intro env; rfl) (hpl : ∀ env, (backTo pos (starEach es env)).any (·.1) = false := by intro env; rfl) : EV c B (.Call (.Name x p1) (e :: es) [] pos) sl p k sl1 :=
  ev_call (hc F) ha hcs ⟨v, hp, rfl, hout.symm, rfl⟩ (okK_h hk) hlv hg hdb he hpl
/-- a statement whose expression raises -/
theorem go_exprX (h : XV c B e sl p z sl1) (hr : R.ex z sl1) (hsw : ∀ env, swapsWith e none pos.line env = pure false := by intro _; rfl) : GO c B (.Expr e pos :: rest) sl R := by
  obtain ⟨te, ge, se⟩ := h
  refine go_cons (M := fun _ => False) ⟨tDrop te, fun X hX => ps_expr (ge X hX) (hsw _), fun S H σ I D q => ?_⟩ fun _ h => h.elim
  exact se S H σ I (fun S' H' cls dx s I' ok => q.ex S' H' σ sl1 cls dx z s.s I' ok hr) _
theorem go_retX (h : XV c B e sl p z sl1) (hr : R.ex z sl1) : GO c B (.Return (some e) pos :: rest) sl R := by
  obtain ⟨te, ge, se⟩ := h
  refine go_cons (M := fun _ => False) ⟨tRet te, fun X hX => ps_ret (ge X hX), fun S H σ I D q => ?_⟩ fun _ h => h.elim
  exact se S H σ I (fun S' H' cls dx s I' ok => q.ex S' H' σ sl1 cls dx z s.s I' ok hr) _
end
/-! ### what a caught exception is -/
structure XIs (K : PySem.W.Frag) (C : Addr) : Prop where
  cl : (PySem.W.clsIn K C).isSome = true
  ga : PySem.W.findIn K (.ref C) "__getattribute__" = some (some (.builtin "BaseException.__getattribute__"))
  gt : PySem.W.findIn K (.ref C) "__getattr__" = some none
  sub : PySem.W.subIn K (.ref C) (.type "BaseException") = some true
  ca : PySem.W.findIn K (.ref C) "__class__" = some (some (.builtin "object.__class__"))
  hn : PySem.W.specialIn K (.builtin "object.__class__") "__get__" = some (some (.builtin "getset_descriptor.__get__"))
  tk : PySem.W.takesIn K (.builtin "object.__class__") = some true
  mr : PySem.W.mroIn K C (.type "object") = some true
def rIsX (K : PySem.W.Frag) (C : Addr) : List V → Hp → VK → Prop := fun xs H Q => ∃ (a : Addr) (dx : Option Addr) (c : V) (cv : Value) (b : Bool), xs = [.ref a, c] ∧ H a = some (exO a C dx) ∧ (∀ d, dx = some d → ∃ fs, H d = some (.xd fs)) ∧ (∀ u, RelV c u → u = cv) ∧ PySem.W.kitOne K (.ref C) cv = some b ∧ Q (.bl b) H
theorem call_isX {X : Cx} {C : Addr} (T : XIs X.K C) : CallR X (.builtin "isinstance") (rIsX X.K C) := by
  intro pins s σ H xs us Q I r h
  obtain ⟨a, dx, c, cv, b, rfl, ha, hdx, hcv, e, q⟩ := h
  cases r with
  | cons rx rr =>
    cases rr with
    | cons rt rr =>
      cases rr
      cases rx
      have ec := hcv _ rt
      subst ec
      have h1 : ObjOk X.prog X.w H s.heap a (exO a C dx) := I.hok a _ ha
      obtain ⟨⟨oe, vs, hae, hz, hd⟩, _, _⟩ := h1
      have J : ∃ od, PySem.W.InstAt s.heap a oe C od := by
        cases dx with
        | none => exact ⟨none, hae, hz.1, by unfold PySem.W.notCls; rw [hd] <;> rfl, by rw [hz.2]; trivial⟩
        | some d =>
          obtain ⟨fs, hfs⟩ := hdx d rfl
          have h2 : ObjOk X.prog X.w H s.heap d (.xd fs) := I.hok d _ hfs
          obtain ⟨mA, hns, _⟩ := h2
          obtain ⟨o, ho, _⟩ := lookIn_ns hns
          exact ⟨some o, hae, hz.1, by unfold PySem.W.notCls; rw [hd] <;> rfl, by rw [hz.2]; exact ho⟩
      obtain ⟨od, J⟩ := J
      exact PySem.W.kia_one (PySem.W.kitx_exc T.cl T.ga T.gt T.sub T.ca T.hn T.tk T.mr) I.kIn J e (fun z => nomatch z) fun tk => ⟨.bl b, H, I.kept (t' := tk) fun _ _ z => z, rfl, q⟩
theorem tr_excD {K : PySem.W.Frag} {S : Hp} {v : V} {C : Addr} {fd : Option (Str × PyData)} (x : Tr K S v (excD C fd)) : ∃ (a : Addr) (dx : Option Addr), v = .ref a ∧ S a = some (exO a C dx) ∧ ∀ d, dx = some d → ∃ fs, S d = some (.xd fs) := by
  cases fd with
  | some p =>
    obtain ⟨a, dx, w, e, h1, h2, _⟩ := tr_exc1 x
    exact ⟨a, some dx, e, h1, fun d e => ⟨_, by cases e; exact h2⟩⟩
  | none =>
    generalize hd : excD C none = d' at x
    simp only [excD] at hd
    cases x with
    | dct h t =>
      exfalso
      cases t with
      | nil => exact absurd hd (by simp)
      | cons h t =>
        injection hd with hd
        injection hd with hd _
        injection hd with hd _
        exact absurd hd.symm keyD_nn
    | exc0 h =>
      injection hd with hd
      injection hd with h1 h2
      injection h1 with _ h1
      injection h1 with h1
      obtain rfl := Int.ofNat.inj h1
      exact ⟨_, none, rfl, h, fun d e => nomatch e⟩
    | _ => exact absurd hd (by simp)
section
variable {c : CxD} {B : Bs} {e a b : Expr} {sl sl1 sl2 : List Sl} {p q : Bool} {pos p1 p2 p3 : Pos} {C : Addr} {fd : Option (Str × PyData)} {t : Bool}
/-- isinstance(e, t), e a caught exception -/
theorem ev_isX {w : V} {wv : Value} (T : XIs c.K C) (ha : EV c B a sl p (.st (excD C fd)) sl1) (hb : EV c B b sl1 q (.raw w) sl2) (hw : ∀ u, RelV w u → u = wv) (ht : PySem.W.kitOne c.K (.ref C) wv = some t) (hm : c.mg "isinstance" = none) (hg : c.sc.names.lookup ("isinstance" : Str) = some .globalImplicit := by rfl)
    (he : ∀ env, starEach [a, b] env = (false, eval a env) :: starEach [b] env := by intro env; rfl) (he2 : ∀ env, starEach [b] env = (false, eval b env) :: starEach [] env := by intro env; rfl) (hpl : ∀ env, (backTo pos (starEach [b] env)).any (·.1) = false := by intro env; rfl) :
    EV c B (.Call (.Name "isinstance" p1) [a, b] [] pos) sl (p && q) (.st (.bool t)) sl2 := by
  have h := ev_callB (pos := pos) (p1 := p1) (ks := [.st (excD C fd), .raw w]) (k := .st (.bool t)) (r := rIsX c.K C) (fun X hX => by have := call_isX (X := X) (C := C) (by rw [hX.hK]; exact T); rw [hX.hK] at this; exact this) (fun B σ sl S H vs I hv Q q => by
    obtain ⟨v, w', rfl, h1, h2⟩ := two_arg hv
    have e2 : w' = w := h2
    subst e2
    obtain ⟨a, dx, rfl, g1, g2⟩ := tr_excD h1
    exact ⟨a, dx, w', wv, t, rfl, I.sh _ _ g1, fun d e => (g2 d e).imp fun fs h => I.sh _ _ h, hw, ht, q.st I (.bl t)⟩) (av_cons ha (av_cons hb av_nil rfl he2) (by simp [Kd.firm]) he) hm (by decide +kernel) hg he hpl
  rwa [Bool.and_true] at h
/-- isinstance(e, D), D a class of the program -/
theorem ev_isXC {x : Str} {D : Addr} (T : XIs c.K C) (ha : EV c B a sl p (.st (excD C fd)) sl1) (hD : c.mg x = some (.ref D)) (ht : PySem.W.kitOne c.K (.ref C) (.ref D) = some t) (hm : c.mg "isinstance" = none) (hgx : c.sc.names.lookup x = some .globalImplicit := by rfl) (h1 : (x == ("__debug__" : Str)) = false := by decide) (hg : c.sc.names.lookup ("isinstance" : Str) = some .globalImplicit := by rfl)
    (he : ∀ env, starEach [a, .Name x p2] env = (false, eval a env) :: starEach [.Name x p2] env := by intro env; rfl) :
    EV c B (.Call (.Name "isinstance" p1) [a, .Name x p2] [] pos) sl p (.st (.bool t)) sl1 := by
  have h := ev_isX (pos := pos) (p1 := p1) T ha (ev_gref (pos := p2) hD hgx h1) (fun u r => r) ht hm hg he (by intro _; rfl) (by intro _; rfl)
  rwa [Bool.and_true] at h
/-- isinstance(e, T), T a class of the language -/
theorem ev_isXT {x : Str} {n : String} (T : XIs c.K C) (ha : EV c B a sl p (.st (excD C fd)) sl1) (hD : c.mg x = none) (ht : PySem.W.kitOne c.K (.ref C) (.type n) = some t) (hm : c.mg "isinstance" = none) (hv : bootBuiltins x = some (.type n) := by decide +kernel) (hgx : c.sc.names.lookup x = some .globalImplicit := by rfl) (hn : x ≠ "__name__" := by decide) (h1 : (x == ("__debug__" : Str)) = false := by decide) (hg : c.sc.names.lookup ("isinstance" : Str) = some .globalImplicit := by rfl)
    (he : ∀ env, starEach [a, .Name x p2] env = (false, eval a env) :: starEach [.Name x p2] env := by intro env; rfl) :
    EV c B (.Call (.Name "isinstance" p1) [a, .Name x p2] [] pos) sl p (.st (.bool t)) sl1 := by
  have h := ev_isX (pos := pos) (p1 := p1) T ha (ev_gty (pos := p2) hD hv hgx hn h1) (fun u r => r) ht hm hg he (by intro _; rfl) (by intro _; rfl)
  rwa [Bool.and_true] at h
end
/-! ### what is known of a class of the program's own -/
structure Cls (K : PySem.W.Frag) (mg : Str → Option Value) (cn f : Str) (C : Addr) : Prop where
  x : XCls K mg cn f C
  i : XIs K C
  g : XGet K C f
  ic : PySem.W.isClsIn K C = true
  ty : PySem.W.typeIn K (.ref C) = some (.type "type")
  self : PySem.W.subIn K (.ref C) (.ref C) = some true
  val : PySem.W.subIn K (.ref C) (.type "ValueError") = some true
theorem cls_mk {K : PySem.W.Frag} {mg : Str → Option Value} {cn f : Str} {C f1 N : Addr} {nm q : Str} {bs : List Value} {sn : List Str} {sub : List Value} {ab : Bool} {col : Option Bool} {dd : Option Addr} {m0 m1 m2 m3 m5 : Option Value} {od1 an1 : Option Addr} {sl1 : Array (Option Value)} {oc1 dc1 pm1 cd1 ct1 : Value} {qi : Str} {p1 p2 q1 q2 q3 q4 : Pos}
    (gC : mg cn = some (.ref C)) (xL : K.lookup C = some (excClassObj nm q C N bs [.type "ValueError", .type "Exception", .type "BaseException", .type "object"] true sn sub ab col dd m0 m1 m2 m3 m5 "ValueError.__new__"))
    (sa : PySem.W.findIn K (.ref C) "__setattr__" = some (some (.builtin "object.__setattr__"))) (ga : PySem.W.findIn K (.ref C) "__getattribute__" = some (some (.builtin "BaseException.__getattribute__"))) (gg : PySem.W.findIn K (.ref C) "__getattr__" = some none) (nf : PySem.W.findIn K (.ref C) f = some none)
    (ca : PySem.W.findIn K (.ref C) "__class__" = some (some (.builtin "object.__class__"))) (hn : PySem.W.specialIn K (.builtin "object.__class__") "__get__" = some (some (.builtin "getset_descriptor.__get__"))) (tk : PySem.W.takesIn K (.builtin "object.__class__") = some true)
    (a1 : PySem.W.findIn K (.ref C) "__init__" = some (some (.ref f1))) (t1 : PySem.W.typeIn K (.ref f1) = some (.type "function"))
    (l1 : K.lookup f1 = some ⟨oc1, od1, .func (PySem.W.fnOf "__init__" qi (xiA f p1 p2) (xiB f q1 q2 q3 q4) (xiS f) .none .none dc1 pm1 an1 cd1 ct1), sl1⟩) (c1 : PySem.W.codeIn K cd1 qi = true)
    (kC : PySem.W.keepIn K (.ref C) = true) (eC : PySem.W.subIn K (.ref C) (.type "BaseException") = some true) (tC : PySem.W.typeIn K (.ref C) = some (.type "type")) (hC : PySem.W.hasDictIn K C = true) (iC : PySem.W.isClsIn K C = true) (sC : PySem.W.subIn K (.ref C) (.ref C) = some true)
    (mC : PySem.W.mroIn K C (.type "object") = some true) (vC : PySem.W.subIn K (.ref C) (.type "ValueError") = some true) : Cls K mg cn f C where
  x := { gC := gC, cls := ⟨nm, q, N, bs, _, sn, sub, ab, col, dd, m0, m1, m2, m3, m5, xL, by decide +kernel⟩, sa := sa, noN := nf, kC := kC, tyC := tC, x := ⟨ga, gg, eC, hC, ca, hn, tk, mC⟩, ini := ⟨f1, a1, t1, oc1, od1, dc1, pm1, an1, cd1, ct1, sl1, p1, p2, q1, q2, q3, q4, qi, l1, c1⟩ }
  i := ⟨iC, ga, gg, eC, ca, hn, tk, mC⟩
  g := ⟨⟨ga, gg, eC, hC⟩, nf⟩
  ic := iC
  ty := tC
  self := sC
  val := vC
section
variable {K : PySem.W.Frag} {mg : Str → Option Value} {cn f cn2 f2 : Str} {C D : Addr}
theorem Cls.kit_val (T : Cls K mg cn f C) : PySem.W.kitOne K (.ref C) (.type "ValueError") = some true := by
  unfold PySem.W.kitOne PySem.W.kitCls
  have e : (Value.ref C == Value.type "ValueError") = false := rfl
  have e2 : PySem.W.kitMeta "ValueError" = true := by decide +kernel
  rw [e, if_neg Bool.false_ne_true]
  show (if PySem.W.kitMeta "ValueError" = true then _ else _) = _
  rw [if_pos e2]
  exact T.val
theorem Cls.kit_self (T : Cls K mg cn f C) : PySem.W.kitOne K (.ref C) (.ref C) = some true := by
  unfold PySem.W.kitOne
  rw [beq_self_eq_true, if_pos rfl]
theorem Cls.kitC {b : Bool} (T : Cls K mg cn2 f2 D) (h : PySem.W.subIn K (.ref C) (.ref D) = some b) : PySem.W.kitCls K (.ref C) (.ref D) = some b := by
  have e : ((PySem.W.clsIn K D).isSome && PySem.W.typeIn K (.ref D) == some (.type "type")) = true := by
    have h2 : (PySem.W.clsIn K D).isSome = true := T.ic
    rw [h2, T.ty] <;> rfl
  show (if _ then _ else _) = _
  rw [if_pos e]
  exact h
theorem Cls.kit_no (T : Cls K mg cn2 f2 D) (h : PySem.W.subIn K (.ref C) (.ref D) = some false) (hne : C ≠ D) : PySem.W.kitOne K (.ref C) (.ref D) = some false := by
  unfold PySem.W.kitOne
  have e : (Value.ref C == Value.ref D) = false := by
    refine Bool.eq_false_iff.mpr fun q => hne ?_
    exact Value.ref.inj (beq_iff_eq.mp q)
  rw [e, if_neg Bool.false_ne_true]
  exact T.kitC h
theorem Cls.exm {b : Bool} (T : Cls K mg cn2 f2 D) (h : PySem.W.subIn K (.ref C) (.ref D) = some b) : PySem.W.exmOne K (.ref C) (.ref D) = some b := by
  unfold PySem.W.exmOne
  rw [T.i.sub] <;> exact T.kitC h
theorem exmAny_nil {cls : Value} : PySem.W.exmAny K cls [] = some false := rfl
theorem exmAny_c {cls c : Value} {r : List Value} {b d : Bool} (h1 : PySem.W.exmOne K cls c = some b) (h2 : PySem.W.exmAny K cls r = some d) : PySem.W.exmAny K cls (c :: r) = some (b || d) := by
  show (match PySem.W.exmOne K cls c, PySem.W.exmAny K cls r with | some b, some d => some (b || d) | _, _ => none) = _
  rw [h1, h2]
end
section
variable {c : CxD} {cn1 f1 cn2 f2 cn3 f3 cn4 f4 : Str} {C1 C2 C3 C4 : Addr}
theorem catch1 (T1 : Cls c.K c.mg cn1 f1 C1) : Catch c [cn1] := ⟨[C1], .cons T1.x.gC .nil, fun n hn C hC => by
  rw [List.mem_singleton.mp hn, T1.x.gC] at hC
  cases hC
  exact exmAny_c (T1.exm T1.self) exmAny_nil⟩
theorem catch2 (T1 : Cls c.K c.mg cn1 f1 C1) (T2 : Cls c.K c.mg cn2 f2 C2) (h12 : PySem.W.subIn c.K (.ref C1) (.ref C2) = some false) (h21 : PySem.W.subIn c.K (.ref C2) (.ref C1) = some false) : Catch c [cn1, cn2] := ⟨[C1, C2], .cons T1.x.gC (.cons T2.x.gC .nil), fun n hn C hC => by
  rcases List.mem_cons.mp hn with rfl | hn
  · rw [T1.x.gC] at hC
    cases hC
    exact exmAny_c (T1.exm T1.self) (exmAny_c (T2.exm h12) exmAny_nil)
  · rw [List.mem_singleton.mp hn, T2.x.gC] at hC
    cases hC
    exact exmAny_c (T1.exm h21) (exmAny_c (T2.exm T2.self) exmAny_nil)⟩
end
end Mw

/-! NwZA: tuple(x), {}. -/
namespace Mw
open PySem PySem.Spec L2
variable [Tb]
section
variable {c : CxD} {B : Bs} {e a b : Expr} {sl sl1 sl2 : List Sl} {p q : Bool} {pos p1 p2 p3 : Pos} {k1 k2 : Kd} {ds : List PyData}
/-- tuple(x), x a list -/
theorem ev_tupOf (ha : EV c B e sl p k1 sl1) (hm : c.mg "tuple" = none) (hl : LsK k1 ds := by first | exact .st | exact .ls | exact .fr) (hg : c.sc.names.lookup ("tuple" : Str) = some .globalImplicit := by rfl) (he : ∀ env, starEach [e] env = (false, eval e env) :: starEach [] env := by intro env; rfl) :
    EV c B (.Call (.Name "tuple" p1) [e] [] pos) sl p (.st (.tuple ds)) sl1 :=
  ev_call1T (fun X hX => by have := call_tuple_of (X := X); rw [hX.hK] at this; exact this) (fun B σ sl S H v I hk Q q => by
    obtain ⟨l, xs, rfl, h1, t⟩ := hl.rd I hk
    exact ⟨l, xs, rfl, .inl ⟨h1, fun m hn => q.ntup I hn t⟩⟩) ha hm (by decide +kernel) hg he
/-- {} -/
theorem ev_dict0 : EV c B (.Dict [] [] pos) sl true (.st (.dict [])) sl := by
  refine ⟨tLkE tDNewK, fun X hX => pe_lkE pe_dnewK, fun S H σ I Q fn l hn => ⟨[l], fun d m => by rw [List.mem_singleton.mp m]; exact ⟨_, upd_same⟩, by simp, fun od => ?_⟩⟩
  obtain ⟨I2, a2⟩ := I.laid2 (o := .frz (od l) (.dK [])) hn
  have e : lkH (upd H l (.dK [])) [l] od = upd H l (.frz (od l) (.dK [])) := by
    funext a
    by_cases ea : a = l
    · subst ea; rw [lkH_in (by simp) upd_same, upd_same]
    · rw [lkH_out (by simpa using ea), upd_ne ea, upd_ne ea]
  rw [e]
  exact fn (.ref l) _ _ I2 a2 (.dct (.inr ⟨_, upd_same⟩) .nil) trivial
/-- (..) + (..) -/
theorem ev_catT {ds' : List PyData} (ha : EV c B a sl p (.st (.tuple ds)) sl1) (hb : EV c B b sl1 true (.st (.tuple ds')) sl2) (hz : ds.length + ds'.length ≤ 1000000) : EV c B (.BinOp a .Add b pos) sl p (.st (.tuple (ds ++ ds'))) sl2 := by
  have h := ev_bin (pos := pos) (op := .Add) (r := rCatA c.K) (k := .st (.tuple (ds ++ ds'))) (fun X hX => by rw [← hX.hK]; exact op_catA) (fun B σ sl S H x y I hx hy Q q => by
    obtain ⟨l, xs, rfl, hl, tx⟩ := tr_tup hx
    obtain ⟨m, ys, rfl, hm, ty⟩ := tr_tup hy
    refine ⟨l, m, xs, ys, rfl, rfl, (same_sam I.sh).sqt hl, (same_sam I.sh).sqt hm, by rw [tx.len, ty.len, sizeLine_eq]; omega, fun e => ?_, fun e1 e => ?_, fun e1 e2 z hn => q.ntup I hn (tx.app ty)⟩
    · subst e
      cases tx
      exact q.st I hy
    · subst e
      cases ty
      rw [List.append_nil] at q
      exact q.st I hx) ha hb rfl
  rwa [Bool.and_true] at h
end
section
variable {c : CxD} {B : Bs} {e a b : Expr} {es : List Expr} {rest : List Stmt} {sl sl1 : List Sl} {s s0 : Sl} {p q : Bool} {pos p1 p2 p3 : Pos} {ks : List Kd} {ds ds0 ds' : List PyData} {d : PyData} {R : Rt}
/-- x.name(e, ..) of a changing list; e changes other things -/
theorem ev_mutX {name : Str} {id : String} {r : V → List V → Hp → VK → Prop} (i : Nat) {x : Str} (pa : PlainAttrs "list") (slot : Slot "list" name id) (hty : typeOf (.builtin id) = pure (.type "method_descriptor")) (hm : ∀ X, InCx c X → MtR X id r) (ha : AV c B (e :: es) sl p ks sl1)
    (hr : ∀ B σ S H l vs xs, Stt c.K B S H σ sl1 → KdsOk c.K B σ sl1 S H vs ks → H l = some (.lst xs) → Trs c.K S xs ds → ∀ Q : VK, (∀ v ys, Tr c.K S v d → Trs c.K S ys ds' → Q v (upd H l (.lst ys))) → r (.ref l) vs H Q)
    (hs0 : sl[i]? = some s0 := by rfl) (ho0 : s0.ow = some (.lst ds0) := by rfl) (hs : sl1[i]? = some s := by rfl) (ho : s.ow = some (.lst ds) := by rfl) (hN : c.N[i]? = some x := by rfl) (hv : Vis c.sc x := by first | exact .inl rfl | exact .inr (.inl rfl) | exact .inr (.inr rfl))
    (h1 : (x == ("__debug__" : Str)) = false := by decide) (h2 : (x == ("__classdict__" : Str)) = false := by decide) (hbase : ∀ env, attributeBase (.Name x p1) name env (eval (.Name x p1) env) = eval (.Name x p1) env := by intro _; rfl)
    (hfew : ∀ env, ((backTo p3 (starEach (e :: es) env)).all (fun x => !x.1) && (backToKw p3 (keywordEach [] env)).all (fun x => x.1.isSome) && decide ((e :: es).length + ([] : List Keyword).length + (if ([] : List Keyword).isEmpty then 0 else 1) < 30)) = true := by intro _; rfl)
    (hline : (p2.endLine == p3.line) = true := by rfl) (hst : ∀ env, starEach (e :: es) env = (false, eval e env) :: starEach es env := by intro _; rfl) (hpl : ∀ env, (backTo p3 (starEach es env)).any (·.1) = false := by intro _; rfl) :
    EV c B (.Call (.Attribute (.Name x p1) name p2) (e :: es) [] p3) sl false (.st d) (sl1.set i (s.put (.lst ds'))) := by
  obtain ⟨ta, ga, sa⟩ := ha
  refine ⟨tBM c.K "list" r (tVar i) ta, fun X hX => by have := pe_bm pa slot hty (hm X hX) (pe_var (X := X) (i := i) (pos := p1) (by rw [hX.hN]; exact hN) (hX.v x hv) h1 h2) (ga X hX) (apos := p2) (cpos := p3) (hbase _) (hfew _) hline (hst _) (hpl _); rw [hX.hK] at this; exact this, fun S H σ I Q fn => ?_⟩
  obtain ⟨l, el, nl, xs0, hx0, t0⟩ := I.own hs0 ho0
  refine ⟨.ref l, el, .inl ⟨rfl, xs0, .inl (.inl hx0)⟩, ?_⟩
  refine sa S H σ I _ fun vs S1 H1 I1 a1 x1 => ?_
  obtain ⟨l', el', nl', xs, hx, tx⟩ := I1.own hs ho
  rw [el] at el'
  cases el'
  refine hr B σ S1 H1 l vs xs I1 x1 hx tx Q fun v ys tv ty => ?_
  have I2 := I1.mutate (u := .lst ys) hs ho (put_ow (o' := .lst ds') ho) put_kind el ⟨ys, upd_same, ty⟩
  exact fn v S1 _ I2 ((a1.trans (mut_adv I1 hs ho el)).weak fun h => nomatch h) tv trivial
/-- x.append(e), e changes other things -/
theorem go_appendX (i : Nat) {x : Str} (ha : EV c B e sl p (.st d) sl1) (h3 : GO c B rest (sl1.set i (s.put (.lst (ds ++ [d])))) R) (hs0 : sl[i]? = some s0 := by rfl) (ho0 : s0.ow = some (.lst ds0) := by rfl) (hs : sl1[i]? = some s := by rfl) (ho : s.ow = some (.lst ds) := by rfl) (hN : c.N[i]? = some x := by rfl) (hv : Vis c.sc x := by first | exact .inl rfl | exact .inr (.inl rfl) | exact .inr (.inr rfl))
    (h1 : (x == ("__debug__" : Str)) = false := by decide) (h2 : (x == ("__classdict__" : Str)) = false := by decide) (hbase : ∀ env, attributeBase (.Name x p1) "append" env (eval (.Name x p1) env) = eval (.Name x p1) env := by intro _; rfl)
    (hfew : ∀ env, ((backTo p3 (starEach [e] env)).all (fun x => !x.1) && (backToKw p3 (keywordEach [] env)).all (fun x => x.1.isSome) && decide ([e].length + ([] : List Keyword).length + (if ([] : List Keyword).isEmpty then 0 else 1) < 30)) = true := by intro _; rfl)
    (hline : (p2.endLine == p3.line) = true := by rfl) (hst : ∀ env, starEach [e] env = (false, eval e env) :: starEach [] env := by intro _; rfl) (hl : ds.length ≤ 1000000 := by first | omega | (simp only [len_nums, List.length_append, List.length_map, List.length_cons, List.length_nil]; omega)) : GO c B (.Expr (.Call (.Attribute (.Name x p1) "append" p2) [e] [] p3) pos :: rest) sl R :=
  go_expr (ev_mutX (ks := [.st d]) (ds' := ds ++ [d]) (d := .none) i PySem.F.plainAttrs_list PySem.F.slot_list_append PySem.F.type_list_append (fun _ _ => mt_append) (av_cons ha av_nil (by simp) hst) (fun B σ S H l vs xs I hk hx tx Q q => by
    obtain ⟨v, rfl, hv⟩ := one_arg hk
    exact ⟨l, xs, v, rfl, rfl, hx, by rw [tx.len, sizeLine_eq]; omega, q _ _ .non (tx.app (.one hv))⟩) hs0 ho0 hs ho hN hv h1 h2 hbase hfew hline hst (fun _ => rfl)) h3 (fun _ => rfl)
/-- x[e], x a changing list, e changes other things -/
theorem ev_ixOwn (j : Nat) {x : Str} {i : Int} (hb : EV c B b sl q (.st (.int i)) sl1) (hd : atI ds i = some d) (hs0 : sl[j]? = some s0 := by rfl) (ho0 : s0.ow = some (.lst ds0) := by rfl) (hs : sl1[j]? = some s := by rfl) (ho : s.ow = some (.lst ds) := by rfl) (hN : c.N[j]? = some x := by rfl) (hv : Vis c.sc x := by first | exact .inl rfl | exact .inr (.inl rfl) | exact .inr (.inr rfl))
    (h1 : (x == ("__debug__" : Str)) = false := by decide) (h2 : (x == ("__classdict__" : Str)) = false := by decide) (hpx : PlainIx b := by exact fun _ _ => rfl) : EV c B (.Subscript (.Name x p1) b pos) sl q (.st d) sl1 := by
  obtain ⟨tb, gb, sb⟩ := hb
  refine ⟨tOp (rIxL c.K) (tVar j) tb, fun X hX => pe_ix (by rw [← hX.hK]; exact ix_list) (pe_var (X := X) (i := j) (pos := p1) (by rw [hX.hN]; exact hN) (hX.v x hv) h1 h2) (gb X hX) hpx, fun S H σ I Q fn => ?_⟩
  obtain ⟨l, el, _, _⟩ := I.own hs0 ho0
  refine ⟨.ref l, el, sb S H σ I _ fun y S2 H2 I2 a2 x2 f2 => ?_⟩
  obtain ⟨l', el', nl, xs, hq, t⟩ := I2.own hs ho
  rw [el] at el'
  cases el'
  have hi := hd
  unfold atI at hi
  obtain ⟨j', hj, hj2⟩ := Option.bind_eq_some_iff.mp hi
  obtain ⟨v, hv, tv⟩ := t.get hj2
  refine ⟨l, xs, i, v, rfl, tr_int x2, .inl (.inl hq), ?_, fn v S2 H2 I2 a2 tv trivial⟩
  unfold atI
  rw [t.len, hj]
  exact hv
end
end Mw

/-! NwZB: a lambda, handed to a def that calls it. -/
namespace Mw
open PySem PySem.Spec L2 PyProof.Rows
open LamX (CodeO TabB LamS lamEnv lamCx lam_start2 inv_table codeO_ne among_app)
section
variable {X : Cx} {pins : List (Addr × Obj)} {σ : L2.St} {H : Hp} {s : Shared}
/-- the lambda is made; all stands -/
theorem lam_mk {T : List (Addr × Str)} {c P : Addr} {params : Arguments} {body : Expr} {scope : Scope} {pos : Pos} {E : Value → Shared → Prop} {Q : Value → Shared → Prop} (I : Inv X pins σ H s) (TB : TabB X.base X.mg c P) (hcode : X.env.code = .ref c)
    (hm : (P, X.env.qual ++ "<lambda>") ∈ T) (hu : ∀ p ∈ T, p.1 = P → p.2 = X.env.qual ++ "<lambda>") (hT : LamX.Tabs T H) (hdef : defaultsOf params X.env = ([], [])) (hfree : ∀ y ∈ scope.names, y.2 = .free → ∃ c, X.env.cells.lookup y.1 = some c)
    (h : ∀ (f c' : Addr) (pm ctv : Value) (H1 : Hp) (s' : Shared), Inv X pins σ H1 s' → Sam H H1 → LamX.Tabs T H1 →
      s'.heap.get? f = some (PySem.W.kla_obj "<lambda>" (X.env.qual ++ "<lambda>") params body scope (cloFrom X.env.cells scope.names []) pm c' ctv) → H1 f = none → f ∉ frs X.stack → H1 c' = some (CodeO c' (X.env.qual ++ "<lambda>")) → Q (.ref f) s') :
    wpAny (model X.prog X.w) X.A (eval (.Lambda params body scope pos) X.env) Q E s := by
  obtain ⟨ps, hP, ht, ha⟩ := hT _ hm
  refine PySem.W.kla_eval hdef ?_
  have bP : s.heap.BuiltinsAt X.mg P := TB.bm.keeps I.bk
  have hP' : s.heap.get? P = some { cls := .none, data := .fields ps } := I.hok P _ hP
  have nofr : ∀ f, s.heap.objs.size ≤ f → f ∉ frs X.stack := fun f hf z => by
    rcases List.mem_cons.mp (I.stkSub _ z) with e | e
    · have h1 := I.lt
      rw [← e] at h1
      exact Nat.lt_irrefl _ (Nat.lt_of_lt_of_le h1 hf)
    · exact I.nofs hf e
  cases hc : codeAmong pos ps.toList with
  | none =>
    refine PySem.W.kla_makeFunction (mg := X.mg) (c := c) (P := P) (ps := ps) (closure_ok hfree) I.ok.glob (I.mod.glob.keeps I.bk) hcode (TB.code.keeps I.bk) hP' ht hc TB.gP bP fun c' ctv h' tk hx hge hlt hrec htb => ?_
    obtain ⟨c2, oc, vs, t, e2, hoc, hd, hv⟩ := hrec
    cases e2
    have hsz : s.heap.objs.size ≤ h'.objs.size := Nat.le_trans hge (Nat.le_of_lt hlt)
    have nC : H c' = none := I.hok.fresh hge
    have I1 := inv_table (t' := tk) (more := #[rawInt pos.line, rawInt pos.col, .ref c']) (h' := h'.push (PySem.W.kla_obj "<lambda>" (X.env.qual ++ "<lambda>") params body scope (cloFrom X.env.cells scope.names []) ((X.mg "__name__").getD .none) c' ctv)) I hP
      (fun b o hb e => Heap.get?_push_of_some _ (hx b o hb e)) (Heap.get?_push_of_some _ htb) hge ⟨oc, vs, t, Heap.get?_push_of_some _ hoc, hd, hv⟩
    have hE : Sam H (upd (upd H P (.tbl (ps ++ #[rawInt pos.line, rawInt pos.col, .ref c']))) c' (CodeO c' (X.env.qual ++ "<lambda>"))) := ⟨fun b o e n => by
      rw [upd_ne (ne_of_none e nC), upd_ne (fun z => n ps (Option.some.inj (e.symm.trans (by rw [z]; exact hP))))]
      exact e, fun b qs e => by
      rw [upd_ne (ne_of_none e nC)]
      by_cases z : b = P
      · rw [z, upd_same]; exact ⟨_, rfl⟩
      · rw [upd_ne z]; exact ⟨_, e⟩⟩
    have eL : (ps ++ #[rawInt pos.line, rawInt pos.col, .ref c']).toList = ps.toList ++ [rawInt pos.line, rawInt pos.col, .ref c'] := by simp
    refine h h'.objs.size c' ((X.mg "__name__").getD .none) ctv _ _ I1 hE (fun p hp => ?_) (Heap.get?_push_size _ rfl) ?_ (nofr _ hsz) upd_same
    · by_cases hb : p.1 = P
      · rw [hu p hp hb, hb]
        refine ⟨_, by rw [upd_ne (ne_of_none hP nC), upd_same], by rw [eL]; exact PySem.TriplesOk_snoc _ _ _ _ ht, fun p' cv hcv => ?_⟩
        rw [eL] at hcv
        rcases among_app _ ht hcv with z | z
        · obtain ⟨c0, e1, e2⟩ := ha p' cv z
          exact ⟨c0, e1, hE.st _ _ e2 codeO_ne⟩
        · exact ⟨c', z, upd_same⟩
      · obtain ⟨ps', a1, a2, a3⟩ := hT p hp
        refine ⟨ps', by rw [upd_ne (ne_of_none a1 nC), upd_ne hb]; exact a1, a2, fun p' cv hcv => ?_⟩
        obtain ⟨c0, e1, e2⟩ := a3 p' cv hcv
        exact ⟨c0, e1, hE.st _ _ e2 codeO_ne⟩
    · have n1 : h'.objs.size ≠ c' := Nat.ne_of_gt hlt
      have n2 : h'.objs.size ≠ P := Nat.ne_of_gt (Nat.lt_of_lt_of_le (Heap.lt_size hP') hsz)
      rw [upd_ne n1, upd_ne n2]
      exact I.hok.fresh hsz
  | some cv =>
    obtain ⟨c', e, hco⟩ := ha pos cv hc
    subst e
    refine PySem.W.kla_makeFunctionHit (mg := X.mg) (c := c) (P := P) (ps := ps) (closure_ok hfree) I.ok.glob (I.mod.glob.keeps I.bk) hcode (TB.code.keeps I.bk) hP' ht hc bP fun ctv h' tk hx hsz => ?_
    have I1 : Inv X pins σ H { s with heap := h'.push (PySem.W.kla_obj "<lambda>" (X.env.qual ++ "<lambda>") params body scope (cloFrom X.env.cells scope.names []) ((X.mg "__name__").getD .none) c' ctv), toks := tk } := I.kept fun b o e => Heap.get?_push_of_some _ (hx b o e)
    exact h h'.objs.size c' ((X.mg "__name__").getD .none) ctv H _ I1 (Sam.refl H) hT (Heap.get?_push_size _ rfl) (I.hok.fresh hsz) (nofr _ hsz) hco
end
/-! ### what is asked of a(), in the def that got the function -/
/-- in the context X, a() gives what tl tells -/
def ActOf (f c' : Addr) (q : Str) (tl : XK → Hp → VK → Prop) (i : Nat) (a : Str) : Cx → Prop := fun X => ∀ (W : WX) (p1 p2 : Pos), Takes X W → PE X (.Call (.Name a p1) [] [] p2) (fun σZ HZ Q => σZ[i]? = some (some (.ref f)) ∧ HZ c' = some (CodeO c' q) ∧ tl (fun cls d H' => W cls d σZ H') HZ Q)
section
variable {X : Cx} {pins : List (Addr × Obj)} {σ : L2.St} {H : Hp} {s : Shared}
theorem pe_ask {E0 : XK} {Ng : List Str} {qg : Str} {sg : Scope} {g f c' : Addr} {cdg pm ctv : Value} {params : Arguments} {body : Expr} {scope : Scope} {k i : Nat} {a : Str} {pn : List (Addr × Obj)} {xe : Value → Shared → Prop} {tb : XK → TE}
    (I : Inv X pins σ H s) (L : LamS X.env.scope scope) (hf : s.heap.get? f = some (PySem.W.kla_obj "<lambda>" (X.env.qual ++ "<lambda>") params body scope (cloFrom X.env.cells scope.names []) pm c' ctv)) (hfn : H f = none) (hfr : f ∉ frs X.stack)
    (hbind : bindArgs (PySem.W.kla_fn "<lambda>" (X.env.qual ++ "<lambda>") params body scope (cloFrom X.env.cells scope.names []) pm (.ref c') ctv) ⟨[], []⟩ = pure [])
    (hr : Room (k + 1) (X.A.deeper (envOfC qg sg s.heap.objs.size g cdg)))
    (hbody : ∀ (E : XK) (s2 : Shared) (H : Hp), Room k ((X.A.deeper (envOfC qg sg s.heap.objs.size g cdg)).deeper (lamEnv X scope s2.heap.objs.size f c')) → PE (lamCx X (X.A.deeper (envOfC qg sg s.heap.objs.size g cdg)) (envOfC qg sg s.heap.objs.size g cdg :: X.stack) s2 H E scope f c') body (tb E))
    (hN : Ng[i]? = some a) (hv : Vis sg a) (hd : (a == ("__debug__" : Str)) = false) (hcd : (a == ("__classdict__" : Str)) = false) :
    ActOf f c' (X.env.qual ++ "<lambda>") (fun E HZ Q => tb E σ HZ Q) i a ((cxOf (L2.CX X.prog X.w) X.prog X.w X.K X.mg X.base Ng qg sg g cdg X.A X.stack s H E0).tr pn xe) := by
  intro W p1 p2 tk
  refine ⟨fun pinsZ sZ σZ HZ Q IZ h => ?_⟩
  obtain ⟨hs, hc, ht⟩ := h
  refine wpAny_Call_Name_kw (thn ((pe_var (pos := p1) (i := i) hN hv hd hcd).run pinsZ sZ σZ HZ (fun v H1 => v = .ref f ∧ H1 = HZ) IZ ⟨.ref f, hs, rfl, rfl⟩) fun u s1 ⟨v, H1, I1, r1, q1⟩ => ?_)
  obtain ⟨ev, eH⟩ := q1
  subst ev
  rw [eH] at I1
  obtain rfl : u = Value.ref f := r1
  have of1 : s1.heap.get? f = some (PySem.W.kla_obj "<lambda>" (X.env.qual ++ "<lambda>") params body scope (cloFrom X.env.cells scope.names []) pm c' ctv) := I1.base.keep f _ hf hfn hfr (fun z => nomatch (show f ∈ ([] : List Addr) from z))
  refine PySem.W.callWith_F0 ⟨_, _, _, _, of1⟩ ?_
  have un : Un (frs X.stack) [] H HZ s.heap s1.heap := I1.base
  obtain ⟨⟨oc, vs, t, hoc, hdc, hvc⟩, _, _⟩ := I1.hok c' _ hc
  have rc : codeAny (model X.prog X.w) (X.A.deeper (envOfC qg sg s.heap.objs.size g cdg)) (.call (.ref f) ⟨[], []⟩) (CR (L2.CX X.prog X.w) (envOfC qg sg s.heap.objs.size g cdg :: X.stack) X.prog X.w HZ s1 Q fun cls d H' => W cls d σZ H') s1 := by
    refine PySem.W.kla_callFunE hr.depth of1 rfl L.co L.gen rfl ⟨c', oc, vs, t, rfl, hoc, hdc, hvc⟩ ?_
    rw [hbind]
    refine wpAny_pure (wpAny_newFunctionEnv (fun y hy => (L.own y hy).2) (fun y hy => absurd hy (by simp)) (fun h₁ hns hsb => ⟨I1.nolimit.fresh _ hsb, ?_⟩) L.kind)
    show codeAny _ _ (.expr body (lamEnv X scope s1.heap.objs.size f c')) _ _
    have kp : ∀ b o, s1.heap.get? b = some o → h₁.get? b = some o := fun b o e => hsb.extBut b o (Nat.ne_of_lt (Heap.lt_size e)) (Heap.get?_push_of_some _ e)
    have J : Inv (lamCx X (X.A.deeper (envOfC qg sg s.heap.objs.size g cdg)) (envOfC qg sg s.heap.objs.size g cdg :: X.stack) s1 HZ (fun cls d H' => W cls d σZ H') scope f c') [] σ HZ { s1 with heap := h₁, toks := s1.toks + ([] : List (Str × Value)).length } :=
      lam_start2 I L I1.env0 hr.hd un hns kp
    refine PySem.W.kla_codeExpr (wpAny_mono ((hbody _ s1 HZ (hr.deeper _)).run [] _ _ HZ Q J ht) (fun v s' hq => ?_) fun e s' hq => hq)
    obtain ⟨w', H', J', rv, q⟩ := hq
    exact ⟨w', H', J'.os, J'.bare, J'.base, J'.hok, rv, q⟩
  refine wpAny_call (codeAny_mono rc fun r s' hq => ?_)
  cases r with
  | error e => exact tk e s' (XE.of_call I1 (fun cls d H' z => z) hq)
  | ok fl =>
    cases fl with
    | ret u => exact I1.after hq
    | next => exact False.elim hq
    | brk => exact False.elim hq
    | cont => exact False.elim hq
end
variable [Tb]
/-- what tl gives in any later state of the base B: u -/
def AskB (K : PySem.W.Frag) (mg : Str → Option Value) (B : Bs) (u : Out) (tl : XK → Hp → VK → Prop) : Prop := ∀ S1 H1 σ sl, Stt K B S1 H1 σ sl → match u with
  | .ret k => ∀ (E : XK) (Q : VK), (∀ v S2 H2, Stt K B S2 H2 σ sl → Adv σ sl S1 H1 sl S2 H2 true → KdOk K B σ sl S2 H2 v k → Q v H2) → tl E H1 Q
  | .exn z => ∀ (E : XK) (Q : VK), (∀ cls dx S2 H2, Stt K B S2 H2 σ sl → Adv σ sl S1 H1 sl S2 H2 true → ExnOk K mg S2 cls dx z → E cls dx H2) → tl E H1 Q
/-- f, handed in as a, gives u when it is called -/
structure Got (c : CxD) (B : Bs) (a : Str) (f : Addr) (u : Out) : Prop where
  ex : ∃ (c' : Addr) (q : Str) (tl : XK → Hp → VK → Prop), c.xt.ext = ActOf f c' q tl 0 a ∧ B.H0 c' = some (CodeO c' q) ∧ B.ls = [] ∧ AskB c.K c.mg B u tl
section
variable {c : CxD} {B : Bs} {sl : List Sl} {a : Str} {f : Addr} {p1 p2 : Pos}
theorem Got.w {u : Out} (G : Got c B a f u) (W : WX) : Got { c with W := W } B a f u := ⟨G.ex⟩
theorem xv_ask {z : Exn} (G : Got c B a f (.exn z)) (hs : sl[0]? = some (.raw (.ref f)) := by rfl) : XV c B (.Call (.Name a p1) [] [] p2) sl true z sl := by
  obtain ⟨c', q, tl, hx, hc, hl, hA⟩ := G.ex
  refine ⟨fun σ H Q => σ[0]? = some (some (.ref f)) ∧ H c' = some (CodeO c' q) ∧ tl (fun cls d H' => c.W cls d σ H') H Q, fun X hX => ?_, fun S H σ I w Q => ⟨I.raw hs, I.keep c' _ hc (by rw [hl]; simp) codeO_ne, hA S H σ sl I _ Q fun cls dx S2 H2 I2 a2 hz => w S2 H2 cls dx a2 I2 hz⟩⟩
  have h := hX.xt X.pn X.xe
  rw [hx] at h
  exact h c.W p1 p2 hX.tk
theorem ev_ask {d : PyData} (G : Got c B a f (.ret (.st d))) (hs : sl[0]? = some (.raw (.ref f)) := by rfl) : EV c B (.Call (.Name a p1) [] [] p2) sl true (.st d) sl := by
  obtain ⟨c', q, tl, hx, hc, hl, hA⟩ := G.ex
  refine ⟨fun σ H Q => σ[0]? = some (some (.ref f)) ∧ H c' = some (CodeO c' q) ∧ tl (fun cls d H' => c.W cls d σ H') H Q, fun X hX => ?_, fun S H σ I Q fn => ⟨I.raw hs, I.keep c' _ hc (by rw [hl]; simp) codeO_ne, hA S H σ sl I _ Q fun v S2 H2 I2 a2 hv => fn v S2 H2 I2 a2 hv trivial⟩⟩
  have h := hX.xt X.pn X.xe
  rw [hx] at h
  exact h c.W p1 p2 hX.tk
end
/-! ### a def that calls what it got -/
def Tell (P : Program) (w : World) (K : PySem.W.Frag) (mg : Str → Option Value) (base : Heap) (x : Str) (st : Stmt) (a : Str) (k : Nat) (pre : Out → Prop) (res : Out → PyData) : Prop :=
  ∃ (g : Addr) (fd : FuncData) (Ng : List Str), mg x = some (.ref g) ∧ Fun K x x st g fd ∧ Binds K fd [a] [] ∧ Ng[0]? = some a ∧ Vis (defScope st) a ∧
    ∀ (A : Around) (outer : List Env) (s : Shared) (H S : Hp) (f c' : Addr) (q : Str) (tl : XK → Hp → VK → Prop) (u : Out) (Q : VK), pre u → Room (k + 1) A → A.guards = some [] → Env0 P w K mg base A outer s H →
      (∀ (E0 : XK) (pn : List (Addr × Obj)) (xe : Value → Shared → Prop), ActOf f c' q tl 0 a ((cxOf (L2.CX P w) P w K mg base Ng x (defScope st) g fd.code A outer s H E0).tr pn xe)) →
      H c' = some (CodeO c' q) → Stt K ⟨S, H, []⟩ S H [some (.ref f)] [.raw (.ref f)] → AskB K mg ⟨S, H, []⟩ u tl →
      (∀ v S' H', Stt K ⟨S, H, []⟩ S' H' [some (.ref f)] [.raw (.ref f)] → Tr K S' v (res u) → Q v H') →
      codeAny (model P w) A (.call (.ref g) ⟨[.ref f], []⟩) (CR (L2.CX P w) outer P w H s Q fun _ _ _ => False) s
theorem tell_of {P : Program} {w : World} {K : PySem.W.Frag} {mg : Str → Option Value} {base : Heap} {x a : Str} {st : Stmt} {g : Addr} {fd : FuncData} {Ng : List Str} {k : Nat} {pre : Out → Prop} {res : Out → PyData} (hm : mg x = some (.ref g)) (F : Fun K x x st g fd) (hb : Binds K fd [a] []) (Sc : FnScope Ng [a] (defScope st)) (hN : Ng[0]? = some a) (hv : Vis (defScope st) a)
    (body : ∀ (B : Bs) (X0 : Xt) (f : Addr) (u : Out), pre u → Got ⟨P, w, K, mg, base, Ng, defScope st, k, fun _ _ _ _ => False, true, X0⟩ B a f u → GO ⟨P, w, K, mg, base, Ng, defScope st, k, fun _ _ _ _ => False, true, X0⟩ B (defBody st) (pad [.raw (.ref f)] Ng.length) (retP (.st (res u)))) : Tell P w K mg base x st a k pre res := by
  refine ⟨g, fd, Ng, hm, F, hb, hN, hv, ?_⟩
  intro A outer s H S f c' q tl u Q hu hr hgu e0 act hc I0 hA hQ
  obtain ⟨oc, od, kV, doc, pm, an, cdv, ct, osl, rfl, lk, hcd⟩ := F.ex
  have KX : K.In s.heap := e0.mod.kin.keeps fun b o e => (e0.bs b o e).1
  have lim : s.heap.NoLimit := e0.mod.nolimit.keeps fun b o e => (e0.bs b o e).1
  have r : Vals [V.ref f] [Value.ref f] := .cons rfl .nil
  refine codeAny_call_function hr.depth (KX _ _ lk) rfl Sc.co Sc.gen rfl (PySem.W.codeRec_of KX hcd) (hb s [.ref f] KX rfl _ _ _ _ ?_)
  refine wpAny_newFunctionEnv_cells Sc.kind (fun ⟨n, v⟩ hy => ?_) fun env he s1 x1 => ?_
  · rcases Sc.par n (List.of_mem_zip hy).1 with q | q
    · exact .inl q
    · exact .inr ⟨q, PySem.W.cellsFrom_some _ _ _ (.inl q)⟩
  · subst he
    refine ⟨lim.keeps x1.toInCall.keep, codeAny_func ?_⟩
    have I : Inv (cxOf (L2.CX P w) P w K mg base Ng x (defScope st) g cdv A outer s H fun _ _ _ => False) [] (start Ng [V.ref f]) H s1 := inv_start Sc hr.hd e0 rfl r x1
    have hX : InCx ⟨P, w, K, mg, base, Ng, defScope st, k, fun _ _ _ _ => False, true, ⟨cdv, x ++ ".<locals>.", ActOf f c' q tl 0 a⟩⟩ (cxOf (L2.CX P w) P w K mg base Ng x (defScope st) g cdv A outer s H fun _ _ _ => False) :=
      ⟨rfl, rfl, rfl, rfl, rfl, rfl, rfl, Sc.kind, hgu, hr.deeper _, fun _ h => h, fun _ h => h, fun _ h => h, fun _ h => h, fun _ h => ⟨h, rfl⟩, passes_of rfl, takes_of (E := fun _ _ _ => False) rfl rfl rfl rfl, fun _ => ⟨rfl, rfl, rfl⟩, rfl, rfl, fun pn xe => act _ pn xe⟩
    obtain ⟨t, ht, sem⟩ := body ⟨S, H, []⟩ ⟨cdv, x ++ ".<locals>.", ActOf f c' q tl 0 a⟩ f u hu ⟨c', q, tl, rfl, hc, rfl, hA⟩
    have shp : Shp [Sl.raw (.ref f)] [Sl.raw (.ref f)] := plain_shp rfl
    have fin : ∀ {σ' : L2.St} {sl' : List Sl} {S' H' : Hp}, Stt K ⟨S, H, []⟩ S' H' σ' sl' → Stt K ⟨S, H, []⟩ S' H' [some (.ref f)] [.raw (.ref f)] := fun J => args_back I0 shp J fun i j o e => absurd e (plain_io rfl)
    have hN1 : 1 ≤ Ng.length := by have := (List.getElem?_eq_some_iff.mp hN).1; omega
    have hq := sem S H (start Ng [V.ref f]) (start_stt (vs := [V.ref f]) (by show 1 ≤ _; omega) I0) { nx := fun _ H' => Q .non H', rt := Q } ⟨fun S' H' σ' sl' s I' h0 => (by
        have h0 : Kd.st (res u) = .st .none := h0
        refine hQ .non S' H' (fin I') ?_
        rw [Kd.st.inj h0]; exact .non), fun S' H' σ' sl' v k' s I' x h0 => (by
        have h0 : k' = Kd.st (res u) := h0
        subst h0
        exact hQ v S' H' (fin I') x), fun S' H' σ' sl' s I' z => False.elim z, fun S' H' σ' sl' s I' z => False.elim z, fun S' H' σ' sl' cls dx x s I' z h0 => False.elim h0⟩
    refine wpAny_mono ((ht _ hX).run [] s1 (start Ng [V.ref f]) H _ I hq) (fun fl s' hs => ?_) fun e s' hs => hs
    cases fl with
    | ret u =>
      obtain ⟨v, σ', H', J, rv, q⟩ := hs
      exact ⟨v, H', J.os, J.bare, J.base, J.hok, rv, q⟩
    | next =>
      obtain ⟨σ', H', J, q⟩ := hs
      exact ⟨V.non, H', J.os, J.bare, J.base, J.hok, rfl, q⟩
    | brk =>
      obtain ⟨_, _, _, q⟩ := hs
      exact False.elim q
    | cont =>
      obtain ⟨_, _, _, q⟩ := hs
      exact False.elim q
/-! ### the lambda, where it is made -/
/-- the context of a lambda's body -/
abbrev CxD.lam (c : CxD) (scope : Scope) (k : Nat) (E : XK) (X0 : Xt) : CxD := { c with sc := scope, lv := k, W := fun cls d _ H => E cls d H, top := false, xt := X0 }
/-- what a lambda's body gives: u -/
def LamB (c : CxD) (B : Bs) (e : Expr) (sl : List Sl) (u : Out) : Prop := ∃ te, (∀ X, InCx c X → PE X e te) ∧ ∀ S H σ, Stt c.K B S H σ sl → match u with
  | .ret k => ∀ Q : VK, (∀ v S2 H2, Stt c.K B S2 H2 σ sl → Adv σ sl S H sl S2 H2 true → KdOk c.K B σ sl S2 H2 v k → Q v H2) → te σ H Q
  | .exn z => ∀ Q : VK, (∀ cls dx S2 H2, Stt c.K B S2 H2 σ sl → Adv σ sl S H sl S2 H2 true → ExnOk c.K c.mg S2 cls dx z → c.W cls dx σ H2) → te σ H Q
theorem lamB_ret {c : CxD} {B : Bs} {e : Expr} {sl : List Sl} {d : PyData} (h : EV c B e sl true (.st d) sl) : LamB c B e sl (.ret (.st d)) := by
  obtain ⟨te, ge, se⟩ := h
  exact ⟨te, ge, fun S H σ I Q q => se S H σ I Q fun v S2 H2 I2 a2 x2 _ => q v S2 H2 I2 a2 x2⟩
theorem lamB_exn {c : CxD} {B : Bs} {e : Expr} {sl : List Sl} {z : Exn} (h : XV c B e sl true z sl) : LamB c B e sl (.exn z) := by
  obtain ⟨te, ge, se⟩ := h
  exact ⟨te, ge, fun S H σ I Q q => se S H σ I (fun S2 H2 cls dx a2 I2 hz => q cls dx S2 H2 I2 a2 hz) Q⟩
/-- the table of the code object in which a lambda is made -/
def TabOf (base : Heap) (mg : Str → Option Value) (cd : Value) (q : Str) : Prop := ∃ cA P : Addr, cd = .ref cA ∧ TabB base mg cA P ∧ (P, q ++ "<lambda>") ∈ Tb.T ∧ ∀ p ∈ Tb.T, p.1 = P → p.2 = q ++ "<lambda>"
section
variable {c : CxD} {B : Bs} {sl : List Sl}
theorem ask_back {Bo : Bs} {S H : Hp} {σo : L2.St} {K : PySem.W.Frag} {mg : Str → Option Value} {u : Out} {tl : XK → Hp → VK → Prop} (hu : ∀ k, u = .ret k → ∃ d, k = .st d) (I : Stt K Bo S H σo sl)
    (h : ∀ S1 H1, Stt K Bo S1 H1 σo sl → match u with
      | .ret k => ∀ (E : XK) (Q : VK), (∀ v S2 H2, Stt K Bo S2 H2 σo sl → Adv σo sl S1 H1 sl S2 H2 true → KdOk K Bo σo sl S2 H2 v k → Q v H2) → tl E H1 Q
      | .exn z => ∀ (E : XK) (Q : VK), (∀ cls dx S2 H2, Stt K Bo S2 H2 σo sl → Adv σo sl S1 H1 sl S2 H2 true → ExnOk K mg S2 cls dx z → E cls dx H2) → tl E H1 Q) : AskB K mg ⟨S, H, []⟩ u tl := by
  intro S1 H1 σ sl1 J
  obtain ⟨I1, a1⟩ := back0 I J
  have h1 := h S1 H1 I1
  have up : ∀ {S2 H2}, Stt K Bo S2 H2 σo sl → Adv σo sl S1 H1 sl S2 H2 true → Stt K ⟨S, H, []⟩ S2 H2 σ sl1 ∧ Adv σ sl1 S1 H1 sl1 S2 H2 true := fun {S2 H2} I2 a2 =>
    ⟨J.growS a2.s (a2.h rfl) I2.sh a2.n I2.tabs I2.snt, a2.s, a2.n, fun a o e => (a2.h rfl).dom e, fun a o e ht _ => (a2.h rfl).st _ _ e ht, fun _ => a2.h rfl, fun _ h => h⟩
  cases u with
  | ret k =>
    obtain ⟨d, rfl⟩ := hu k rfl
    exact fun E Q q => h1 E Q fun v S2 H2 I2 a2 x2 => q v S2 H2 (up I2 a2).1 (up I2 a2).2 x2
  | exn z => exact fun E Q q => h1 E Q fun cls dx S2 H2 I2 a2 hz => q cls dx S2 H2 (up I2 a2).1 (up I2 a2).2 hz
/-- x(lambda: body) -/
theorem ev_tell {x a : Str} {st : Stmt} {k : Nat} {pre : Out → Prop} {res : Out → PyData} {params : Arguments} {body : Expr} {scope : Scope} {p lpos pos : Pos} {P : Program} {w : World} {K : PySem.W.Frag} {mg : Str → Option Value} {base : Heap} (u : Out) (F : Tell P w K mg base x st a k pre res) (hu : pre u) (hu2 : ∀ k, u = .ret k → ∃ d, k = .st d)
    (hT : TabOf c.base c.mg c.xt.cd c.xt.ql) (hb : ∀ E X0, LamB (c.lam scope k E X0) B body sl u) (hc : Tell P w K mg base x st a k pre res → Tell c.P c.w c.K c.mg c.base x st a k pre res := by exact fun h => h) (hlv : k + 2 ≤ c.lv := by exact Nat.le_of_ble_eq_true rfl) (hL : LamX.lamSB c.sc scope = true := by (try dsimp only [CxD.blk]); decide +kernel) (hg : c.sc.names.lookup x = some .globalImplicit := by rfl)
    (hdb : (x == ("__debug__" : Str)) = false := by decide) (hda : (a == ("__debug__" : Str)) = false := by decide) (hca : (a == ("__classdict__" : Str)) = false := by decide) (hdef : ∀ env, defaultsOf params env = ([], []) := by intro _; rfl)
    (hbind : ∀ (q : Str) (cl : List (Str × Addr)) (pm cv ctv : Value), bindArgs (PySem.W.kla_fn "<lambda>" q params body scope cl pm cv ctv) ⟨[], []⟩ = pure [] := by intro _ _ _ _ _; rfl) : EV c B (.Call (.Name x p) [.Lambda params body scope lpos] [] pos) sl true (.st (res u)) sl := by
  obtain ⟨g, fd, Ng, hm, hF, hbd, hN, hv, G⟩ := hc F
  obtain ⟨cA, PT, hcd, TB, hmT, hu1⟩ := hT
  have LS := LamX.lamS_by hL
  have hb2 : ∀ (c' : Addr) (E : XK), LamB (c.lam scope k E ⟨.ref c', c.xt.ql ++ "<lambda>" ++ ".<locals>.", fun _ => True⟩) B body sl u := fun c' E => hb E _
  let tb : Addr → XK → TE := fun c' E => (hb2 c' E).choose
  have tb1 : ∀ c' E X, InCx (c.lam scope k E ⟨.ref c', c.xt.ql ++ "<lambda>" ++ ".<locals>.", fun _ => True⟩) X → PE X body (tb c' E) := fun c' E => (hb2 c' E).choose_spec.1
  refine ⟨fun σ H Q => LamX.Tabs Tb.T H ∧ ∀ (f c' : Addr) (H1 : Hp), Sam H H1 → LamX.Tabs Tb.T H1 → H1 f = none → H1 c' = some (CodeO c' (c.xt.ql ++ "<lambda>")) → ∃ S, Stt c.K ⟨S, H1, []⟩ S H1 [some (.ref f)] [.raw (.ref f)] ∧ AskB c.K c.mg ⟨S, H1, []⟩ u (fun E HZ Q => tb c' E σ HZ Q) ∧
      ∀ v S' H', Stt c.K ⟨S, H1, []⟩ S' H' [some (.ref f)] [.raw (.ref f)] → Tr c.K S' v (res u) → Q v H', fun X hX => ⟨fun pins s σ H Q I h => ?_⟩, fun S H σ I Q fn => ⟨I.tabs, fun f c' H1 h1 t1 hf hco => ?_⟩⟩
  · obtain ⟨hTb, h⟩ := h
    have L : LamS X.env.scope scope := ⟨LS.kind, LS.co, LS.gen, LS.own, fun y hy e => hX.f y.1 (LS.free y hy e)⟩
    have kp : PySem.W.keepIn X.K (.ref g) = true := by rw [hX.hK]; exact hF.kp
    refine wpAny_Call_Name_kw (ld_glob I (hX.g x hg) (by rw [hX.hm]; exact hm) ?_ hdb)
    refine PySem.W.callWith_K (h₀ := X.base) I.ok.mod.kin kp ?_ (by rfl) (by rfl)
    show wpAny _ _ (spliced ((false, eval (.Lambda params body scope lpos) X.env) :: backTo pos (starEach [] X.env))) _ _ s
    refine Calls.spliced_cons (lam_mk I (by rw [hX.hb, hX.hm]; exact TB) (hX.cd.trans hcd) (by rw [hX.ql]; exact hmT) (by rw [hX.ql]; exact hu1) hTb (hdef _) (L.has I.ok) fun f c' pm' ctv H1 s' I1 eN T1 hf hfn hfr hco => ?_)
    refine Calls.spliced_nil ⟨I1.kIn, ?_⟩
    rw [hX.ql] at hco
    obtain ⟨S, I0, hA, hQ⟩ := h f c' H1 eN T1 hfn hco
    have hr : Room (k + 2) X.A := hX.rm.mono hlv
    have act : ∀ (E0 : XK) (pn : List (Addr × Obj)) (xe : Value → Shared → Prop), ActOf f c' (c.xt.ql ++ "<lambda>") (fun E HZ Q => tb c' E σ HZ Q) 0 a ((cxOf (L2.CX X.prog X.w) X.prog X.w X.K X.mg X.base Ng x (defScope st) g fd.code X.A X.stack s' H1 E0).tr pn xe) := fun E0 pn xe => by
      have := pe_ask (E0 := E0) (pn := pn) (xe := xe) (tb := tb c') (k := k) (qg := x) (sg := defScope st) (g := g) (cdg := fd.code) I1 L hf hfn hfr (hbind _ _ _ _ _) (hr.deeper _) (fun E s2 H2 hr2 => tb1 c' E _ ?_) hN hv hda hca
      · rwa [hX.ql] at this
      · exact ⟨hX.hP, hX.hw, hX.hK, hX.hm, hX.hb, hX.hN, rfl, LS.kind, hX.gu, hr2, fun _ h => h, fun _ h => h, fun _ h => h, fun _ h => h, fun y hy => absurd rfl (LS.own _ (PySem.mem_of_lookup hy)).2, passes_of rfl, takes_of rfl rfl rfl rfl, (fun z => nomatch z), rfl, (by rw [← hX.ql]; rfl), fun _ _ => trivial⟩
    have rc : codeAny (model X.prog X.w) X.A (.call (.ref g) ⟨[.ref f], []⟩) (CR (L2.CX X.prog X.w) X.stack X.prog X.w H1 s' Q fun _ _ _ => False) s' := by
      have e0 : Env0 X.prog X.w X.K X.mg X.base X.A X.stack s' H1 := I1.env0
      rw [hX.hP, hX.hw, hX.hK, hX.hm, hX.hb] at e0 act
      rw [hX.hP, hX.hw]
      exact G X.A X.stack s' H1 S f c' _ _ u Q hu (hr.mono (by omega)) hX.gu e0 act hco I0 hA hQ
    refine wpAny_call (codeAny_mono rc fun r s2 hq => ?_)
    cases r with
    | error e =>
      obtain ⟨_, _, _, _, _, _, _, _, _, _, _, _, z⟩ := hq
      exact z.elim
    | ok fl =>
      cases fl with
      | ret u => exact I1.after hq
      | next => exact False.elim hq
      | brk => exact False.elim hq
      | cont => exact False.elim hq
  · have I1 : Stt c.K B S H1 σ sl := I.growS (.refl _) h1 (fun b o e => h1.st _ _ (I.sh _ _ e) fun ps z => I.snt.tb b ps (by rw [e, z])) (fun b o e1 e2 => by rw [e1] at e2; cases e2) t1 I.snt
    have I0 : Stt c.K ⟨S, H1, []⟩ S H1 [some (.ref f)] [.raw (.ref f)] := by
      refine ⟨.refl _, I1.sh, fun b o h1 h2 => (by have h3 : S b = none := h2; rw [h1] at h3; cases h3), fun b o e _ _ => e, fun b o e => ⟨o, e⟩, fun l h => absurd h (by simp), rfl, fun i s e => ?_, fun i j b y1 y2 => ?_, t1, (fun b ps e => ⟨ps, e⟩), I.snt, I1.sm0⟩
      · cases i with
        | zero =>
          simp at e
          subst e
          exact ⟨_, rfl, rfl⟩
        | succ i => simp at e
      · obtain ⟨s, x, b1, b2, b3⟩ := y1
        cases i with
        | zero => simp at b1; subst b1; exact absurd b3 fpS_raw
        | succ i => simp at b1
    refine ⟨S, I0, ask_back hu2 I1 fun S2 H2 I2 => ?_, fun v S' H' J hv => ?_⟩
    · have key : ∀ E, _ := fun E => (hb2 c' E).choose_spec.2 S2 H2 σ I2
      cases u with
      | ret kk => exact fun E Q q => key E Q q
      | exn z => exact fun E Q q => key E Q q
    · obtain ⟨I2, a2⟩ := back0 I1 J
      have a1 : Adv σ sl S H sl S H1 true := ⟨.refl _, fun b o e1 e2 => (by rw [e1] at e2; cases e2), fun b o e => h1.dom e, fun b o e ht _ => h1.st _ _ e ht, fun _ => h1, fun _ h => h⟩
      exact fn v S' H' I2 (a1.trans a2) hv trivial
end
end Mw

/-! NwZC: the end of a law whose defs make lambdas. -/
namespace Mw
open PySem PySem.Spec L2
open LamX (TabB)
variable [Tb]
/-- which heaps a law's call may start from; cs: the code objects and their tables -/
structure EntryT (K : PySem.W.Frag) (P : Program) (w : World) (S H : Hp) (h : Heap) (a : Addr) (ns : List Int) (cs : List (Addr × Addr)) : Prop where
  tb : ∀ p ∈ cs, H p.2 = some (.tbl #[])
  only : ∀ b, H b = none ∨ b ∈ cs.map (·.2) ∨ ∃ o xs, H b = some (.frz o (.lst xs))
  sq : SqL K S a (ns.map V.int)
  sh : Same S H
  nt : NoT S
  ok : HOk P w H h
  at1 : ∀ b, H b ≠ none → b = a ∨ b ∈ cs.map (·.2)
  off : H a ≠ none → K.lookup a = none
theorem entryT_of {K : PySem.W.Frag} {P : Program} {w : World} {h : Heap} {a : Addr} {vs : List Value} {ns : List Int} {cs : List (Addr × Addr)} (KX : K.In h) (hT : ∀ p ∈ cs, h.get? p.2 = some { cls := .none, data := .fields #[] }) (ha : h.get? a = some { cls := .type "list", data := .seq vs.toArray }) (hi : PyProof.Rows.IntsAre vs ns) (hl : ns.length ≤ sizeLine) : ∃ S H, EntryT K P w S H h a ns cs := by
  have rv := vals_ints hi
  have isT : ∀ b : Addr, b ∈ cs.map (·.2) → h.get? b = some { cls := .none, data := .fields #[] } := fun b hb => by
    obtain ⟨p, hp, e⟩ := List.mem_map.mp hb
    rw [← e]
    exact hT p hp
  have aT : a ∉ cs.map (·.2) := fun z => by
    have q := isT a z
    rw [ha] at q
    have z' : Data.seq vs.toArray _ = Data.fields #[] := congrArg Obj.data (Option.some.inj q)
    cases z'
  have memT : ∀ p ∈ cs, p.2 ∈ cs.map (·.2) := fun p hp => List.mem_map.mpr ⟨p, hp, rfl⟩
  cases hk : K.lookup a with
  | some o =>
    have e := KX a o hk
    rw [ha] at e
    cases e
    refine ⟨fun _ => none, fun b => if b ∈ cs.map (·.2) then some (.tbl #[]) else none, fun p hp => if_pos (memT p hp), fun b => ?_, .inr ⟨_, vs.toArray, _, hk, rfl, rfl, rfl, ?_, by simpa using rv⟩, (fun b o z => nomatch z), (fun b ps z => nomatch z), fun b u z => ?_, fun b z => ?_, fun z => absurd (show (if a ∈ cs.map (·.2) then some (HO.tbl #[]) else none) = none from if_neg aT) z⟩
    · by_cases hb : b ∈ cs.map (·.2)
      · exact .inr (.inl hb)
      · exact .inl (if_neg hb)
    · rw [List.size_toArray, hi.length]; exact hl
    · by_cases hb : b ∈ cs.map (·.2)
      · have z' := (if_pos hb).symm.trans z
        cases z'
        exact isT b hb
      · have z' := (if_neg hb).symm.trans z
        cases z'
    · by_cases hb : b ∈ cs.map (·.2)
      · exact .inr hb
      · exact absurd (if_neg hb) z
  | none =>
    let F : HO := .frz { cls := .type "list", data := .seq vs.toArray } (.lst (ns.map V.int))
    have at0 : (fun b => if b = a then some F else none : Hp) a = some F := if_pos rfl
    refine ⟨fun b => if b = a then some F else none, fun b => if b = a then some F else if b ∈ cs.map (·.2) then some (.tbl #[]) else none, fun p hp => (if_neg (show ¬ p.2 = a from fun z => aT (by rw [← z]; exact memT p hp))).trans (if_pos (memT p hp)), fun b => ?_, .inl (.inr ⟨_, at0⟩), fun b o z => ?_, fun b ps z => ?_, fun b u z => ?_, fun b z => ?_, fun _ => hk⟩
    · by_cases hb : b = a
      · exact .inr (.inr ⟨_, _, if_pos hb⟩)
      · by_cases hb2 : b ∈ cs.map (·.2)
        · exact .inr (.inl hb2)
        · exact .inl ((if_neg hb).trans (if_neg hb2))
    · by_cases hb : b = a
      · exact (if_pos hb).trans ((if_pos hb).symm.trans z)
      · have z' := (if_neg hb).symm.trans z
        cases z'
    · by_cases hb : b = a
      · have z' : some (HO.frz _ _) = some ps := (if_pos hb).symm.trans z
        cases z'
        trivial
      · have z' := (if_neg hb).symm.trans z
        cases z'
    · by_cases hb : b = a
      · have z' := (if_pos hb).symm.trans z
        cases z'
        rw [hb]
        exact ⟨ha, by rw [List.length_map]; exact hl, vs, _, rv, ha⟩
      · have z1 := (if_neg hb).symm.trans z
        by_cases hb2 : b ∈ cs.map (·.2)
        · have z' := (if_pos hb2).symm.trans z1
          cases z'
          exact isT b hb2
        · have z' := (if_neg hb2).symm.trans z1
          cases z'
    · by_cases hb : b = a
      · exact .inl hb
      · by_cases hb2 : b ∈ cs.map (·.2)
        · exact .inr hb2
        · exact absurd ((if_neg hb).trans (if_neg hb2)) z
theorem law_runT {P : Program} {w : World} {K : PySem.W.Frag} {mg mb : Str → Option Value} {k n : Nat} {fa a : Addr} {cs : List (Addr × Addr)} {fd : FuncData} {x : Str} {s1 : Shared} {vs : List Value} {ns : List Int} (hTb : ∀ p ∈ Tb.T, ∃ q ∈ cs, q.2 = p.1) (KX : K.In s1.heap) (hns : s1.heap.Ns mainGlobals mg) (hb : s1.heap.Ns builtinsNs mb)
    (hbb : ∀ x : Str, x ≠ "__name__" → mb x = bootBuiltins x) (hlim : s1.heap.NoLimit) (hsm : ∃ mm, s1.heap.Ns sysModules mm) (nS : K.lookup sysModules = none) (hg : s1.gens = #[])
    (hT : ∀ p ∈ cs, s1.heap.get? p.2 = some { cls := .none, data := .fields #[] }) (nT : ∀ p ∈ cs, K.lookup p.2 = none) (C : ∀ p ∈ cs, PySem.W.CodeHd s1.heap p.1 p.2)
    (hbm : ∃ (bm : Addr) (ob : Obj), mg "__builtins__" = some (.ref bm) ∧ bm ≠ builtinsNs ∧ s1.heap.get? bm = some ob ∧ ob.cls = .type "module" ∧ ob.dict = some builtinsNs ∧ ob.data = .plain)
    (ha : s1.heap.get? a = some { cls := .type "list", data := .seq vs.toArray }) (hi : PyProof.Rows.IntsAre vs ns) (hn : ns.length ≤ n) (hl : n ≤ sizeLine) (hr : Room k callerA)
    (F : ∀ base : Heap, K.In base → base.Ns mainGlobals mg → (∀ p ∈ cs, TabB base mg p.1 p.2) → FnG P w K mg base k fa fd [x] (Prm K mg (lawR n))) (hbind : ∀ (s : Shared) (u : Value), BindsTo s fd ⟨[u], []⟩ [(x, u)]) :
    codeAny (model P w) callerA (.call (.ref fa) ⟨[.ref a], []⟩) (fun r s' => r = .ok (.ret (.bool true)) ∧ OldK s1.heap s'.heap ∧ s'.os = s1.os ∧ PyProof.Rows.AllBare s'.gens) s1 := by
  obtain ⟨S, H0, E⟩ := entryT_of (P := P) (w := w) (cs := cs) KX hT ha hi (Nat.le_trans hn hl)
  obtain ⟨mm, oS, esS, epS, eS, dS, -⟩ := hsm
  have isT : ∀ b : Addr, b ∈ cs.map (·.2) → s1.heap.get? b = some { cls := .none, data := .fields #[] } := fun b hb => by
    obtain ⟨p, hp, e⟩ := List.mem_map.mp hb
    rw [← e]
    exact hT p hp
  have sN : H0 sysModules = none := by
    cases q : H0 sysModules with
    | none => rfl
    | some u =>
      rcases E.at1 sysModules (by rw [q]; simp) with e' | e'
      · rw [e', ha] at eS
        cases eS
        cases dS
      · rw [isT _ e'] at eS
        cases eS
        cases dS
  let φ0 : Heap → Prop := fun h => h.get? sysModules = some oS
  obtain ⟨H, hH⟩ : ∃ H, H = upd H0 sysModules (.ext φ0) := ⟨_, rfl⟩
  have hHs : H sysModules = some (.ext φ0) := by rw [hH]; exact upd_same
  have hHn : ∀ b, b ≠ sysModules → H b = H0 b := fun b hb => by rw [hH]; exact upd_ne hb
  have neS : ∀ {b : Addr} {u : HO}, H0 b = some u → b ≠ sysModules := fun {b u} e z => by rw [z, sN] at e; cases e
  have tbH : ∀ p ∈ cs, H p.2 = some (.tbl #[]) := fun p hp => by rw [hHn _ (neS (E.tb p hp))]; exact E.tb p hp
  have onlyH : ∀ b, H b = none ∨ b ∈ cs.map (·.2) ∨ (∃ o xs, H b = some (.frz o (.lst xs))) ∨ b = sysModules := fun b => by
    by_cases hb : b = sysModules
    · exact .inr (.inr (.inr hb))
    · rw [hHn b hb]
      rcases E.only b with h | h | h
      · exact .inl h
      · exact .inr (.inl h)
      · exact .inr (.inr (.inl h))
  have shH : Same S H := fun b o e => by
    have := E.sh b o e
    rw [hHn _ (neS this)]; exact this
  have okH : HOk P w H s1.heap := fun b u e => by
    by_cases hb : b = sysModules
    · subst hb
      rw [hHs] at e
      cases e
      exact ⟨eS, ⟨_, eS⟩, fun h1 h2 e1 k => k _ e1⟩
    · rw [hHn b hb] at e
      have ok := E.ok b u e
      rcases E.only b with h | h | ⟨o, xs, h⟩
      · rw [h] at e; cases e
      · obtain ⟨p, hp, ep⟩ := List.mem_map.mp h
        have := E.tb p hp
        rw [ep, e] at this
        cases this
        exact ok
      · rw [h] at e
        cases e
        exact ok
  have at1H : ∀ b, H b ≠ none → b = a ∨ b ∈ cs.map (·.2) ∨ b = sysModules := fun b hb => by
    by_cases h : b = sysModules
    · exact .inr (.inr h)
    · rw [hHn b h] at hb
      rcases E.at1 b hb with h | h
      · exact .inl h
      · exact .inr (.inl h)
  have base_of : ∀ {b : Addr} {o : Obj}, s1.heap.get? b = some o → H b = none → (hidT s1.heap H).get? b = some o := fun e n => hidT_get e (by rw [n])
  have noD : ∀ {b : Addr} {o : Obj}, s1.heap.get? b = some o → b ≠ sysModules → (∀ vs n, o.data ≠ .seq vs n) → o.data ≠ .fields #[] → H b = none := fun {b o} e hs h1 h2 => by
    cases q : H b with
    | none => rfl
    | some u =>
      rcases at1H b (by rw [q]; simp) with e' | e' | e'
      · rw [e', ha] at e
        cases e
        exact (h1 _ _ rfl).elim
      · rw [isT b e'] at e
        cases e
        exact (h2 rfl).elim
      · exact absurd e' hs
  have noA : ∀ {b : Addr} {o : Obj} {es : Array DictEntry} {ep : Nat}, s1.heap.get? b = some o → b ≠ sysModules → o.data = .dict es ep → H b = none := fun {b o es ep} e hs d => by
    refine noD e hs (fun vs n z => ?_) fun z => ?_
    · rw [d] at z
      cases z
    · rw [d] at z
      cases z
  have nsK : ∀ {b : Addr} {m : Str → Option Value}, b ≠ sysModules → s1.heap.Ns b m → (hidT s1.heap H).Ns b m := fun {b m} hs ⟨o, es, ep, e, d, r⟩ => ⟨o, es, ep, base_of e (noA e hs d), d, r⟩
  have notS : ∀ {b : Addr} {o : Obj}, s1.heap.get? b = some o → (∀ es ep, o.data ≠ .dict es ep) → b ≠ sysModules := fun {b o} e h z => by
    rw [z, eS] at e
    cases e
    exact h _ _ dS
  have hKb : K.In (hidT s1.heap H) := fun b o e => base_of (KX b o e) (by
    cases q : H b with
    | none => rfl
    | some u =>
      rcases at1H b (by rw [q]; simp) with e' | e' | e'
      · have hs : a ≠ sysModules := notS ha fun _ _ z => nomatch z
        rw [e'] at e q
        rw [hHn a hs] at q
        rw [E.off (by rw [q]; simp)] at e
        cases e
      · obtain ⟨p, hp, ep⟩ := List.mem_map.mp e'
        rw [← ep, nT p hp] at e
        cases e
      · rw [e', nS] at e
        cases e)
  have hM : Mod K mg (hidT s1.heap H) := ⟨hKb, nsK (by decide) hns, ⟨mb, nsK (by decide) hb, hbb⟩, let ⟨mc, h1, h2⟩ := hlim; ⟨mc, nsK (by decide) h1, h2⟩⟩
  have TB : ∀ p ∈ cs, TabB (hidT s1.heap H) mg p.1 p.2 := fun p hp => by
    have hTp := hT p hp
    refine ⟨?_, ?_, fun z => ?_⟩
    · obtain ⟨o, us, file, tf, flags, tg, inF, text, tt, e1, r1, r2, r3, r4, r5, r6, r7, r8, hne⟩ := C p hp
      refine ⟨o, us, file, tf, flags, tg, inF, text, tt, base_of e1 (noD e1 (notS e1 fun es ep z => by rw [r2] at z; cases z) (fun vs n z => ?_) fun z => ?_), r1, r2, r3, r4, r5, r6, r7, r8, hne⟩
      · rw [r2] at z
        cases z
      · rw [r2] at z
        cases z
        simp at r3
    · obtain ⟨bm, ob, b1, b2, b3, b4, b5, b6⟩ := hbm
      have nG : bm ≠ mainGlobals := fun q => by
        obtain ⟨o, es, ep, e, hd, _⟩ := hns
        rw [q, e] at b3
        cases b3
        rw [hd] at b6
        cases b6
      have nP : bm ≠ p.2 := fun q => by
        rw [q, hTp] at b3
        cases b3
        cases b6
      refine ⟨bm, ob, b1, b2, nG, nP, base_of b3 (noD b3 (notS b3 fun es ep z => by rw [b6] at z; cases z) (fun vs n z => ?_) fun z => ?_), b4, b5, b6⟩
      · rw [b6] at z
        cases z
      · rw [b6] at z
        cases z
    · obtain ⟨o, es, ep, e, hd, _⟩ := hns
      rw [z, hTp] at e
      cases e
      cases hd
  have e0 : Env0 P w K mg (hidT s1.heap H) callerA [] s1 H := ⟨rfl, hM, fun b o e => of_hidT e, Nat.le_of_eq (hidT_size _ _), trivial, fun b hb => absurd hb (by simp [frs]), okH, .of_eq hg⟩
  have I0 : Stt K ⟨S, H, []⟩ S H ([V.ref a].map some) [.val (.list (nums ns))] := by
    refine ⟨.refl _, shH, fun b o h1 h2 => (by have h3 : S b = none := h2; rw [h1] at h3; cases h3), fun b o e _ _ => e, fun b o e => ⟨o, e⟩, fun l h => absurd h (by simp), rfl, fun i s e => ?_, fun i j b y1 y2 => ?_, fun p hp => ?_, (fun b ps e => ⟨ps, e⟩), E.nt, ⟨⟨φ0, hHs, fun h e => ⟨oS, esS, epS, e, dS⟩⟩, fun h => nomatch h⟩⟩
    · cases i with
      | zero =>
        simp at e
        subst e
        exact ⟨_, rfl, _, rfl, .lst E.sq (trs_nums ns)⟩
      | succ i => simp at e
    · obtain ⟨s, x, b1, b2, b3⟩ := y1
      cases i with
      | zero => simp at b1; subst b1; exact absurd b3 fpS_val
      | succ i => simp at b1
    · obtain ⟨q, hq, e⟩ := hTb p hp
      rw [← e]
      exact LamX.TabS.nil (tbH q hq)
  refine codeAny_mono ((F _ hKb (nsK (by decide) hns) TB).run callerA [] s1 H ⟨[.ref a], []⟩ [.ref a] [.ref a] (fun v H' => v = .bl true ∧ H' sysModules = some (.ext φ0)) (fun _ _ _ => False) hr rfl e0 (hbind s1 (.ref a)) (.cons rfl .nil)
    ⟨S, [], _, _, _, ⟨ns, rfl, hn, rfl, rfl⟩, I0, fun v S' H' J hv => ⟨tr_bl hv, J.keep _ _ hHs (fun h => nomatch h) fun ps z => nomatch z⟩⟩) fun r s' q => ?_
  cases r with
  | error e =>
    obtain ⟨_, _, _, _, _, _, _, _, _, _, _, _, z⟩ := q
    exact z.elim
  | ok fl =>
    cases fl with
    | next => exact False.elim q
    | brk => exact False.elim q
    | cont => exact False.elim q
    | ret u =>
      obtain ⟨v, H', os, bare, un, hok', r', q, qs⟩ := q
      subst q
      have r2 : u = Value.bool true := r'
      subst r2
      have key : ∀ b o, b ∉ cs.map (·.2) → s1.heap.get? b = some o → s'.heap.get? b = some o := fun b o nb e => by
        cases q : H b with
        | none => exact un.keep b o e q (by simp [frs]) (by simp)
        | some u =>
          rcases onlyH b with z | z | ⟨ob, xs, z⟩ | z
          · rw [q] at z; cases z
          · exact absurd z nb
          · obtain ⟨e1, _⟩ := okH b _ z
            obtain ⟨e2, _⟩ := hok' b _ (un.frzs b ob _ z)
            rw [e] at e1; cases e1
            exact e2
          · rw [z] at e ⊢
            rw [eS] at e
            cases e
            exact (hok' _ _ qs).1
      have grown : ∀ p ∈ cs, ∃ more : Array Value, s'.heap.get? p.2 = some { cls := .none, data := .fields more } := fun p hp => by
        obtain ⟨more, z⟩ := un.tbls p.2 #[] (tbH p hp)
        exact ⟨_, hok' p.2 _ z⟩
      refine ⟨rfl, ⟨fun b o e => ?_, fun b o e => ?_⟩, os, bare⟩
      · by_cases hb : b ∈ cs.map (·.2)
        · obtain ⟨p, hp, ep⟩ := List.mem_map.mp hb
          obtain ⟨more, hm⟩ := grown p hp
          rw [← ep] at e ⊢
          rw [hT p hp] at e
          cases e
          exact .inr (.inl ⟨((C p hp).tab (hT p hp)).isCodeTable, rfl, #[], more, rfl, by rw [Array.empty_append]; exact hm⟩)
        · exact .inl (key b o hb e)
      · by_cases hb : b ∈ cs.map (·.2)
        · obtain ⟨p, hp, ep⟩ := List.mem_map.mp hb
          obtain ⟨more, hm⟩ := grown p hp
          rw [← ep]
          exact ⟨_, hm⟩
        · exact ⟨o, key b o hb e⟩
/-- the end; ts: the defs that make lambdas, with their code objects and tables -/
theorem walkT (ts : List (Str × Addr × Addr)) (hTb : Tb.T = ts.map fun t => (t.2.2, (t.1 ++ (".<locals>." : Str) ++ ("<lambda>" : Str) : Str))) {l : PySem.W.OpenLaw} {n k : Nat} {q : Program} {loose : List Str} {XP : (Str → Option Value) → Heap → Prop} {YP : World → Heap → Prop} {d : DefRec} {K : Params → PySem.W.Frag} {x : Str} (hn : l.most = some n) (hn2 : n ≤ sizeLine) (hdf : d.params.defaults = []) (hr : Room k callerA)
    (hY : ∀ (w : World) (h : Heap), YP w h → (K w.params).In h) (hrec : ∀ t ∈ ts, ∃ e, (PyProof.Rows.recsOf q).find? (fun e => e.name == t.1) = some e) (htab : ∀ w : World, ∀ t ∈ ts, PySem.W.tabIn (K w.params) t.1 = some t.2) (hno : ∀ w : World, ∀ t ∈ ts, (K w.params).lookup t.2.2 = none) (hnS : ∀ w : World, (K w.params).lookup sysModules = none) (himp : PyProof.Rows.importsNone q = true)
    (F : ∀ (w : World) (mg : Str → Option Value) (fa : Addr) (h : Heap), (K w.params).In h → h.Ns mainGlobals mg → mg d.name = some (.ref fa) → ∃ fd : FuncData, (∀ (s : Shared) (u : Value), BindsTo s fd ⟨[u], []⟩ [(x, u)]) ∧
        ∀ base : Heap, (K w.params).In base → base.Ns mainGlobals mg → (∀ t ∈ ts, TabB base mg t.2.1 t.2.2) → FnG l.prog w (K w.params) mg base k fa fd [x] (Prm (K w.params) mg (lawR n))) : PySem.W.WalkO q loose XP YP l.row.toRowW d [] (fun f vs => PySem.call f vs) := by
  refine Att.attach_call hn hdf fun w s0 s1 mg mb fa o pm cd doc a vs ns G Y ho hd hcd hmg hobj hints hlen hg => ?_
  have KX := hY w _ Y
  obtain ⟨fd, hb, hF⟩ := F w mg fa _ KX G.T.g hmg
  have key : ∀ t ∈ ts, PySem.W.CodeHd s1.heap t.2.1 t.2.2 ∧ s1.heap.get? t.2.2 = some { cls := .none, data := .fields #[] } := fun t ht => by
    obtain ⟨e, he⟩ := hrec t ht
    exact PySem.W.tab_of G.T KX he (htab w t ht)
  have mem : ∀ {P : Addr × Addr → Prop}, (∀ t ∈ ts, P t.2) → ∀ p ∈ ts.map (·.2), P p := fun h p hp => by
    obtain ⟨t, ht, rfl⟩ := List.mem_map.mp hp
    exact h t ht
  exact law_runT (cs := ts.map (·.2)) (fun p hp => by
    rw [hTb] at hp
    obtain ⟨t, ht, rfl⟩ := List.mem_map.mp hp
    exact ⟨t.2, List.mem_map.mpr ⟨t, ht, rfl⟩, rfl⟩) KX G.T.g G.T.b G.T.builtins G.T.nolimit (let ⟨mm, h, _⟩ := (G.T.seer himp).mods; ⟨mm, h⟩) (hnS w) hg (mem fun t ht => (key t ht).2) (mem (P := fun p => (K w.params).lookup p.2 = none) fun t ht => hno w t ht) (mem fun t ht => (key t ht).1) G.T.bmain hobj hints hlen hn2 hr (fun base h1 h2 h3 => hF base h1 h2 fun t ht => h3 t.2 (List.mem_map.mpr ⟨t, ht, rfl⟩)) hb
/-- .. where no def makes a lambda -/
theorem walkG (hT : Tb.T = []) {l : PySem.W.OpenLaw} {n k : Nat} {q : Program} {loose : List Str} {XP : (Str → Option Value) → Heap → Prop} {YP : World → Heap → Prop} {d : DefRec} {K : Params → PySem.W.Frag} {x : Str} (hn : l.most = some n) (hn2 : n ≤ sizeLine) (hdf : d.params.defaults = []) (hr : Room k callerA)
    (hY : ∀ (w : World) (h : Heap), YP w h → (K w.params).In h) (hnS : ∀ w : World, (K w.params).lookup sysModules = none) (himp : PyProof.Rows.importsNone q = true)
    (F : ∀ (w : World) (mg : Str → Option Value) (fa : Addr) (h : Heap), (K w.params).In h → h.Ns mainGlobals mg → mg d.name = some (.ref fa) → ∃ fd : FuncData, (∀ (s : Shared) (u : Value), BindsTo s fd ⟨[u], []⟩ [(x, u)]) ∧
        ∀ base : Heap, (K w.params).In base → base.Ns mainGlobals mg → FnG l.prog w (K w.params) mg base k fa fd [x] (Prm (K w.params) mg (lawR n))) : PySem.W.WalkO q loose XP YP l.row.toRowW d [] (fun f vs => PySem.call f vs) :=
  walkT [] hT hn hn2 hdf hr hY (fun t ht => nomatch ht) (fun w t ht => nomatch ht) (fun w t ht => nomatch ht) hnS himp fun w mg fa h X G e => by
    obtain ⟨fd, hb, hF⟩ := F w mg fa h X G e
    exact ⟨fd, hb, fun base h1 h2 _ => hF base h1 h2⟩
/-- for a look at the numbers -/
def Show (x : Str) (c P : Addr) : Prop := True
theorem probe {Q : Prop} {K : PySem.W.Frag} {h : Heap} (KX : K.In h) {x : Str} {f c P : Addr} {oc oc2 dV kV dc pm ct : Value} {od od2 an : Option Addr} {sl sl2 : Array (Option Value)} {nm qn : Str} {ps : Arguments} {b : List Stmt} {sc : Scope} {vs : Array Value}
    (a : PySem.W.nsIn K mainGlobals x = some (some (.ref f))) (l : K.lookup f = some ⟨oc, od, .func (PySem.W.fnOf nm qn ps b sc dV kV dc pm an (.ref c) ct), sl⟩) (t : K.lookup c = some ⟨oc2, od2, .fields vs, sl2⟩) (v : vs[11]? = some (.ref P)) (g : Show x c P → Q) : Q := g trivial
/-- at the making of a def's facts: its table -/
theorem tabOf_mk {base : Heap} {mg : Str → Option Value} {cA P : Addr} {q : Str} (hm : (P, q ++ "<lambda>") ∈ Tb.T) (hu : ∀ p ∈ Tb.T, p.1 = P → p.2 = q ++ "<lambda>") (B : TabB base mg cA P) : TabOf base mg (.ref cA) q := ⟨cA, P, rfl, B, hm, hu⟩
end Mw

/-! NwZD: more statements and calls. -/
namespace Mw
open PySem PySem.Spec L2
def ipIW (C : Int → Int → Prop) (f : Int → Int → Int) : TIp := fun x y H Q => ∃ i j, x = .int i ∧ y = .int j ∧ C i j ∧ Q (.int (f i j)) H
theorem ip_mulW {X : Cx} : PIp X .Mult (ipIW CMulW fun i j => i * j) := by
  intro pins s σ H x y v u Q I r1 r2 h
  obtain ⟨i, j, e1, e2, hc, q⟩ := h
  subst e1; subst e2
  obtain ⟨t, rfl⟩ := r1
  obtain ⟨t', rfl⟩ := r2
  exact PyProof.Rows.imul_int ⟨.int _, H, I.tok _, ⟨_, rfl⟩, q⟩ hc.ok
variable [Tb]
section
variable {c : CxD} {B : Bs} {e : Expr} {rest : List Stmt} {sl sl1 : List Sl} {p : Bool} {pos p1 : Pos} {R : Rt}
/-- n *= e, whole numbers -/
theorem go_augMul (i : Nat) {x : Str} {m n : Int} (hs : sl[i]? = some (.val (.int m)) := by rfl) (h : EV c B e sl p (.st (.int n)) sl1) (hc : CMulW m n) (h2 : GO c B rest (sl1.set i (.val (.int (m * n)))) R) (hi : (sl1[i]?).isSome = true := by rfl) (hN : c.N[i]? = some x := by rfl) (nd : c.N.Nodup := by assumption) (hx : c.sc.names.lookup x = some .local ∨ c.sc.names.lookup x = some .cell := by first | exact .inl rfl | exact .inr rfl) :
    GO c B (.AugAssign (.Name x p1) .Mult e pos :: rest) sl R := by
  obtain ⟨te, h, hh⟩ := h
  refine go_to ⟨tAug i te _, fun X hX => ps_aug (by rw [hX.hN]; exact nd) (by rw [hX.hN]; exact hN) (hX.loc hx).1 (h X hX) ip_mulW (hX.loc hx).2, fun S H σ I D q => ?_⟩ h2
  obtain ⟨v, hv, tv⟩ := I.val hs
  refine ⟨v, hv, hh S H σ I _ fun w S1 H1 I1 a1 x1 _ => ?_⟩
  refine ⟨m, n, tr_int tv, tr_int x1, hc, ?_⟩
  exact q.nx S1 H1 _ _ a1.s (I1.set (k := .st (.int (m * n))) (.int _) hi) rfl
end
/-! ### promises narrowed, defs with defaults -/
theorem DefD.good {α β : Type} {pre : α → Prop} {args : α → List Sl} {out : α → Out} {pre' : β → Prop} {args' : β → List Sl} {res' : β → Kd} {P : Program} {w : World} {K : PySem.W.Frag} {mg : Str → Option Value} {base : Heap} {x : Str} {st : Stmt} {ps : List Str} {lv : Nat} {dvs : List V} (h : DefD P w K mg base x st ps lv (Prm K mg (PureX pre args out)) dvs)
    (hi : ∀ b, pre' b → ∃ a, pre a ∧ args a = args' b ∧ out a = .ret (res' b)) : DefD P w K mg base x st ps lv (Prm K mg (Pure pre' args' res')) dvs := by
  obtain ⟨f, fd, a, b, c, d⟩ := h.ex
  exact ⟨f, fd, a, b, c, d.imp fun vs H Q E ⟨S, ls, cs, u, cs', ⟨b, hb, e1, e2, e3⟩, I, q⟩ => by
    obtain ⟨a, h1, h2, h3⟩ := hi b hb
    exact ⟨S, ls, cs, u, cs', ⟨a, h1, e1.trans h2.symm, e2.trans h3.symm, e3⟩, I, q⟩⟩
section
variable {c : CxD} {B : Bs} {e : Expr} {es : List Expr} {sl sl1 sl2 : List Sl} {p q : Bool} {ks ks' : List Kd} {pos p1 : Pos} {α : Type} {pre : α → Prop} {args : α → List Sl} {out : α → Out} {x : Str} {st : Stmt} {ps nms : List Str} {lv n : Nat} {kws : List Keyword} {ix : List Nat} {P : Program} {w : World} {K : PySem.W.Frag} {mg : Str → Option Value} {base : Heap} {z : Exn}
/-- f(e, .., k = e, ..), refused -/
theorem xv_callPK (v : α) (F : DefK P w K mg base x st ps lv (Prm K mg (PureX pre args out))) (kb : KwOk x st ps nms n ix) (ha : AV c B (e :: es) sl p ks sl1) (hkv : KV c B kws sl1 q ks' sl2) (hcs : ArgP (pick (ks ++ ks') ix) (args v)) (hp : pre v) (hout : out v = .exn z) (hc : DefK P w K mg base x st ps lv (Prm K mg (PureX pre args out)) → c.DefK x st ps lv (Prm c.K c.mg (PureX pre args out)) := by exact fun h => h) (hlv : lv ≤ c.lv := by exact Nat.le_of_ble_eq_true rfl) (hg : c.sc.names.lookup x = some .globalImplicit := by rfl)
    (hla : ks.length = (e :: es).length := by rfl) (hn : (e :: es).length = n := by rfl) (hlk : ks'.length = kws.length := by rfl) (hln : kws.length = nms.length := by rfl) (hfm : (q || ks.all Kd.firm) = true := by rfl) (hall : ∀ env, (backToKw pos (keywordEach kws env)).all (·.1.isSome) = true := by intro _; rfl) (hks : ∀ env, (backToKw pos (keywordEach kws env)).filterMap (·.1) = nms := by intro _; rfl)
    (hdb : (x == ("__debug__" : Str)) = false := by decide) (he : ∀ env, starEach (e :: es) env = (false, eval e env) :: starEach es env := by intro env; rfl) (hpl : ∀ env, ((backTo pos (starEach (e :: es) env)).any (·.1) || (backToKw pos (keywordEach kws env)).any (·.1.isNone)) = false := by intro _; rfl) : XV c B (.Call (.Name x p1) (e :: es) kws pos) sl (p && q) z sl2 := by
  obtain ⟨f, fd, hm, hF, G⟩ := (hc F).ex
  obtain ⟨t, ht, hs⟩ := ha
  obtain ⟨t', ht', hs'⟩ := hkv
  refine ⟨fun σ H Q => t σ H fun vs H1 => vs.length = (e :: es).length ∧ t' σ H1 fun ws H2 => ws.length = kws.length ∧ Prm c.K c.mg (PureX pre args out) (pick (vs ++ ws) ix) H2 Q fun cls d H' => c.W cls d σ H', fun X hX => pe_callGK (by rw [hX.hP, hX.hw, hX.hK, hX.hm, hX.hb]; exact G) (hX.rm.mono hlv) hX.gu hX.tk (hX.g x hg) (by rw [hX.hm]; exact hm) (by rw [hX.hK]; exact hF.kp) (by rw [hX.hK]; exact kb.kwb hF) (ht X hX) (ht' X hX) hln hn (hall _) (hks _) hdb (he _) (hpl _), fun S H σ I w Q => ?_⟩
  refine hs S H σ I _ fun vs S1 H1 I1 a1 x1 => ⟨by rw [x1.len]; exact hla, hs' S1 H1 σ I1 _ fun ws S2 H2 I2 a2 x2 => ⟨by rw [x2.len]; exact hlk, S2, [], args v, .exn z, args v, ⟨v, hp, rfl, hout.symm, rfl⟩, hcs.stt I2 (((x1.adv a2 hfm).app x2).pick ix), fun cls dx S' H' J hv => ?_⟩⟩
  obtain ⟨I3, a3⟩ := back0 I2 J
  exact w S' H' cls dx (((a1.trans a2).trans a3).weak fun h => by rw [h]; rfl) I3 hv
end
section
variable {c : CxD} {B : Bs} {a b : Expr} {sl sl1 sl2 : List Sl} {p q : Bool} {pos p1 : Pos} {i j : Int}
/-- min(a, b) -/
theorem ev_min2 (ha : EV c B a sl p (.st (.int i)) sl1) (hb : EV c B b sl1 q (.st (.int j)) sl2) (hm : c.mg "min" = none) (hg : c.sc.names.lookup ("min" : Str) = some .globalImplicit := by rfl)
    (he : ∀ env, starEach [a, b] env = (false, eval a env) :: starEach [b] env := by intro env; rfl) (he2 : ∀ env, starEach [b] env = (false, eval b env) :: starEach [] env := by intro env; rfl) (hpl : ∀ env, (backTo pos (starEach [b] env)).any (·.1) = false := by intro env; rfl) :
    EV c B (.Call (.Name "min" p1) [a, b] [] pos) sl (p && q) (.st (.int (if j < i then j else i))) sl2 := by
  have h := ev_callB (pos := pos) (p1 := p1) (ks := [.st (.int i), .st (.int j)]) (k := .st (.int (if j < i then j else i))) (fun X hX => call_min2 hX.calm) (fun B σ sl S H vs I hv Q q => by
    obtain ⟨v, w, rfl, h1, h2⟩ := two_arg hv
    exact ⟨i, j, by rw [tr_int h1, tr_int h2], q.st I (.int _)⟩) (av_cons ha (av_cons hb av_nil rfl he2) (by simp [Kd.firm]) he) hm (by decide +kernel) hg he hpl
  rwa [Bool.and_true] at h
/-- max(a, b) -/
theorem ev_max2 (ha : EV c B a sl p (.st (.int i)) sl1) (hb : EV c B b sl1 q (.st (.int j)) sl2) (hm : c.mg "max" = none) (hg : c.sc.names.lookup ("max" : Str) = some .globalImplicit := by rfl)
    (he : ∀ env, starEach [a, b] env = (false, eval a env) :: starEach [b] env := by intro env; rfl) (he2 : ∀ env, starEach [b] env = (false, eval b env) :: starEach [] env := by intro env; rfl) (hpl : ∀ env, (backTo pos (starEach [b] env)).any (·.1) = false := by intro env; rfl) :
    EV c B (.Call (.Name "max" p1) [a, b] [] pos) sl (p && q) (.st (.int (if j > i then j else i))) sl2 := by
  have h := ev_callB (pos := pos) (p1 := p1) (ks := [.st (.int i), .st (.int j)]) (k := .st (.int (if j > i then j else i))) (fun X hX => call_max2 hX.calm) (fun B σ sl S H vs I hv Q q => by
    obtain ⟨v, w, rfl, h1, h2⟩ := two_arg hv
    exact ⟨i, j, by rw [tr_int h1, tr_int h2], q.st I (.int _)⟩) (av_cons ha (av_cons hb av_nil rfl he2) (by simp [Kd.firm]) he) hm (by decide +kernel) hg he hpl
  rwa [Bool.and_true] at h
end
/-- numbers of many digits -/
theorem Rk.intB {i : Int} {k : Nat} (hk : 0 < k) (hk2 : k ≤ 1900) (h : i.natAbs < 2 ^ k) : Rk 0 (k + 1) (.int i) := by
  refine ⟨?_, rfl, Nat.zero_le _, int_shown hk h⟩
  show decide _ = true
  refine decide_eq_true ?_
  have h2 : i.natAbs.log2 < k := PySem.Flt.log2_lt_of hk h
  omega
end Mw

/-! NwZE: sum(xss, []), xss a list of lists. -/
namespace Mw
open PySem PySem.Spec L2
def IsL (h : Heap) (a : Addr) (its : List Value) : Prop := ∃ n sl, h.get? a = some { cls := .type "list", dict := none, data := .seq its.toArray n, slots := sl }
def IsL0 (h : Heap) (a : Addr) (its : List Value) : Prop := ∃ n, h.get? a = some { cls := .type "list", dict := none, data := .seq its.toArray n }
section
variable {prog : Program} {w : World} {A : Around} {R : Result → Shared → Prop} {I : Addr} {fp wr : List Addr} {n : Nat} {P : Nat → Value → Prop} {St : Nat → Heap → Prop}
theorem sum_ls_loop (W : Walks prog w A.in1 I fp wr n P St) (as : List Addr) (xss : List (List Value)) (hP : ∀ i v, P i v → ∃ a xs, as[i]? = some a ∧ xss[i]? = some xs ∧ v = .ref a) (S : Addr) (hSf : S ∉ fp) (hn : n = xss.length) (hex : ∀ i h, St i h → ∀ b ∈ wr, ∃ o, h.get? b = some o) :
    ∀ (k i : Nat) (s : Shared) (t : Addr) (acc : List Value) (c : Nat), n - i = k → i ≤ n → St i s.heap → s.heap.get? S = some { cls := .type "list", dict := none, data := .seq #[.ref t] c, slots := #[] } → IsL0 s.heap t acc → t ≠ S → t ∉ wr →
    (∀ (j : Nat) (a : Addr) (xs : List Value), as[j]? = some a → xss[j]? = some xs → IsL s.heap a xs ∧ a ≠ S ∧ a ∉ wr) → (acc ++ (xss.drop i).flatten).length ≤ sizeLine →
    (∀ h' tk t', (∀ b o, b ∉ wr → b ≠ S → s.heap.get? b = some o → h'.get? b = some o) → IsL0 h' t' (acc ++ (xss.drop i).flatten) → ((n = i ∧ t' = t) ∨ S < t') → R (.ok (.ret (.ref t'))) { s with heap := h', toks := tk }) →
    codeAny (model prog w) A (.builtin "sum.loop" ⟨[.ref I, .ref S, rawInt 2, rawInt 0], []⟩) R s := by
  have hSw : S ∉ wr := fun h => hSf (W.sub _ h)
  intro k
  induction k with
  | zero =>
    intro i s t acc c hk hi hst hS ht htS htw hL hsz hR
    have hin : i = n := by omega
    subst hin
    refine codeAny_builtin F.entry_sum_loop ?_
    rw [Around.under_plainId F.plain_sum_loop _]
    show wpAny _ A.in1 (seqItems? (.ref S) >>= _) _ _ s
    refine wpAny_bind (wpAny_seqItems hS rfl ?_)
    show wpAny _ A.in1 (tryCatch (pyNext (.ref I)) _ >>= _) _ _ s
    refine wpAny_bind (wpAny_tryCatch (W.done s _ _ hst fun h' tk hk' => ?_))
    refine wpAny_pure (hR h' tk t (fun b o hbw _ e => hk' b o hbw e) ?_ (.inl ⟨rfl, rfl⟩))
    obtain ⟨n1, e⟩ := ht
    rw [hn, List.drop_length]
    simp only [List.flatten_nil, List.append_nil]
    exact ⟨n1, hk' _ _ htw e⟩
  | succ k ih =>
    intro i s t acc c hk hi hst hS ht htS htw hL hsz hR
    have hlt : i < n := by omega
    refine codeAny_builtin F.entry_sum_loop ?_
    rw [Around.under_plainId F.plain_sum_loop _]
    show wpAny _ A.in1 (seqItems? (.ref S) >>= _) _ _ s
    refine wpAny_bind (wpAny_seqItems hS rfl ?_)
    show wpAny _ A.in1 (tryCatch (pyNext (.ref I)) _ >>= _) _ _ s
    refine wpAny_bind (wpAny_tryCatch (W.item i s _ _ hlt hst fun v h' tk hPv hst' hk' => ?_))
    obtain ⟨a, xs, ha, hxs, rfl⟩ := hP i v hPv
    have hS' := hk' S _ hSw hS
    obtain ⟨⟨na, sla, ea⟩, haS, haw⟩ := hL i a xs ha hxs
    obtain ⟨nt, et⟩ := ht
    have ea' := hk' a _ haw ea
    have et' := hk' t _ htw et
    have hdrop : xss.drop i = xs :: xss.drop (i + 1) := by
      obtain ⟨h1, h2⟩ := List.getElem?_eq_some_iff.mp hxs
      rw [List.drop_eq_getElem_cons h1, h2]
    have hfl : acc ++ (xss.drop i).flatten = (acc ++ xs) ++ (xss.drop (i + 1)).flatten := by rw [hdrop, List.flatten_cons, List.append_assoc]
    rw [hfl] at hsz hR
    show wpAny _ A.in1 ((holding [Value.ref a] (binaryOp .Add (.ref t) (.ref a))).attempt >>= _) _ _ _
    refine wpAny_bind (wpAny_attempt (wpAny_holding ?_))
    refine PySem.concat_meets ⟨_, et', rfl⟩ ⟨_, ea', rfl⟩ PySem.noFill_list_add PySem.seq_list_add PySem.F.slot_list_add PySem.F.entry_list_add (PySem.F.args_list_add_2 _ _)
      (PyProof.Rows.list_addW t a acc.toArray xs.toArray nt na none none #[] sla (by rw [List.length_append] at hsz; simp only [List.length_append] at hsz; simp only [List.size_toArray]; omega)) ⟨et', ea', ?_⟩
    have eL : acc.toArray ++ xs.toArray = (acc ++ xs).toArray := by simp
    rw [eL]
    have hS1 : (h'.push { cls := Value.type "list", data := .seq (acc ++ xs).toArray }).get? S = some { cls := .type "list", dict := none, data := .seq #[.ref t] c, slots := #[] } := Heap.get?_push_of_some _ hS'
    have hSn : S ≠ h'.objs.size := Nat.ne_of_lt (Heap.lt_size hS')
    show wpAny _ A.in1 (updateSeq S (fun _ => #[.ref h'.objs.size]) >>= _) _ _ _
    refine wpAny_bind (wpAny_updateSeq hS1 rfl ?_)
    have hS2 := Heap.get?_update_self (Obj.mapSeq fun _ => #[Value.ref h'.objs.size]) hS1 rfl
    have up : ∀ b o, b ≠ S → h'.get? b = some o → _ := fun b o hbS e => (Heap.get?_update_other _ (Obj.mapSeq fun _ => #[Value.ref h'.objs.size]) (Ne.symm hbS)).trans ((Heap.get?_update_other _ (Obj.mapSeq fun _ => #[Value.ref h'.objs.size]) (Ne.symm hbS)).trans (Heap.get?_push_of_some { cls := Value.type "list", data := .seq (acc ++ xs).toArray } e))
    refine wpAny_bind (wpAny_letGo ?_)
    refine wpAny_bind (wpAny_updateSeq hS2 rfl (wpAny_pure ⟨plainId_quiet F.plain_sum_loop _, ih (i + 1) _ h'.objs.size (acc ++ xs) _ (by omega) hlt (W.frame _ _ _ hst' fun b hb o e => ?_) (Heap.get?_update_self _ hS2 rfl) ?_ ?_ ?_ (fun j b ys hb hys => ?_) hsz fun h'' tk'' t'' hk'' hL'' ht'' => ?_⟩))
    · have hbS : b ≠ S := fun z => hSf (by rw [← z]; exact hb)
      exact (up b o hbS e)
    · exact ⟨_, (Heap.get?_update_other _ _ hSn).trans ((Heap.get?_update_other _ _ hSn).trans (Heap.get?_push_size _ rfl))⟩
    · exact Ne.symm hSn
    · intro hb
      obtain ⟨o, e⟩ := hex _ _ hst' _ hb
      exact Nat.lt_irrefl _ (Heap.lt_size e)
    · obtain ⟨⟨n2, sl2, e2⟩, h2, h3⟩ := hL j b ys hb hys
      exact ⟨⟨n2, sl2, up b _ h2 (hk' b _ h3 e2)⟩, h2, h3⟩
    · refine hR h'' tk'' t'' (fun b o hbw hbS e => hk'' b o hbw hbS (up b o hbS (hk' b o hbw e))) hL'' (.inr ?_)
      rcases ht'' with ⟨_, z⟩ | z
      · rw [z]; exact Heap.lt_size hS'
      · exact z
end
theorem args_sum2 (a b : Value) : argsOk "sum" ⟨[a, b], []⟩ := by unfold argsOk; kernel_rfl
section
variable {prog : Program} {w : World} {A : Around} {E : Value → Shared → Prop} {s : Shared}
theorem sum_ls {l l0 : Addr} {as : List Addr} {acc : List Value} {xss : List (List Value)} {Q : Value → Shared → Prop} (hh : A.handled = none) (hl : s.heap.IsList l (as.map Value.ref).toArray) (h0 : IsL0 s.heap l0 acc) (hlen : as.length = xss.length)
    (hL : ∀ (j : Nat) (a : Addr) (xs : List Value), as[j]? = some a → xss[j]? = some xs → IsL s.heap a xs) (hsz : (acc ++ xss.flatten).length ≤ sizeLine)
    (h : ∀ h' tk t', (∀ b o, s.heap.get? b = some o → h'.get? b = some o) → IsL0 h' t' (acc ++ xss.flatten) → ((as = [] ∧ t' = l0) ∨ s.heap.objs.size ≤ t') → Q (.ref t') { s with heap := h', toks := tk }) :
    wpAny (model prog w) A (call (.builtin "sum") [.ref l, .ref l0]) Q E s := by
  refine call_function_tree F.kind_sum F.plain_sum F.entry_sum (args_sum2 _ _) ?_
  unfold Builtin.«sum»
  simp only [List.length_cons, List.length_nil]
  rw [if_neg (by decide)]
  refine wpAny_bind (wpAny_of_eq (show Builtin.Builtins.bindParams "sum" ["start"] 0 ⟨[.ref l0], []⟩ = pure [some (.ref l0)] from rfl) ?_)
  have hlt : l < s.heap.objs.size := by obtain ⟨_, e, _⟩ := hl; exact Heap.lt_size e
  refine wpAny_bind (wpAny_pyIter_list hl ?_)
  obtain ⟨n0, e0⟩ := h0
  have lt0 : l0 < s.heap.objs.size := Heap.lt_size e0
  have tyL : ∀ (h2 : Heap) (tk : Nat), (∀ b o, s.heap.get? b = some o → h2.get? b = some o) → ({ s with heap := h2, toks := tk } : Shared).TypeIs (.ref l0) "list" := fun h2 tk k => ⟨_, k _ _ e0, rfl⟩
  have kp : ∀ b o, s.heap.get? b = some o → (s.heap.push { cls := .type "list_iterator", data := .fields #[.ref l, .int 0 0] }).get? b = some o := fun b o e => Heap.get?_push_of_some _ e
  refine wpAny_bind (wpAny_pure ?_)
  simp only [List.forIn_cons, List.forIn_nil]
  refine wpAny_bind (wpAny_bind (wpAny_bind (wpAny_isInstance (T := "list") (b := false) (tyL _ _ kp) PySem.F.sub_list_str ?_)))
  simp only [Bool.false_eq_true, if_false]
  refine wpAny_pure (wpAny_bind (wpAny_bind (wpAny_isInstance (T := "list") (b := false) (tyL _ _ kp) PySem.F.sub_list_bytes ?_)))
  simp only [Bool.false_eq_true, if_false]
  refine wpAny_pure (wpAny_bind (wpAny_bind (wpAny_isInstance (T := "list") (b := false) (tyL _ _ kp) PySem.F.sub_list_bytearray ?_)))
  simp only [Bool.false_eq_true, if_false]
  refine wpAny_pure (wpAny_pure ?_)
  refine wpAny_bind (wpAny_newObj_type ?_)
  have hI : s.heap.objs.size < (s.heap.push { cls := .type "list_iterator", data := .fields #[.ref l, .int 0 0] }).objs.size := by rw [Heap.size_push]; exact Nat.lt_succ_self _
  have hsp : (s.heap.push { cls := .type "list_iterator", data := .fields #[.ref l, .int 0 0] }).objs.size = s.heap.objs.size + 1 := Heap.size_push ..
  have kp2 : ∀ b o, s.heap.get? b = some o → ((s.heap.push { cls := .type "list_iterator", data := .fields #[.ref l, .int 0 0] }).push { cls := .type "list", data := .seq #[.ref l0] }).get? b = some o := fun b o e => Heap.get?_push_of_some _ (kp b o e)
  refine wpAny_pure ⟨plainId_quiet F.plain_sum_loop _, sum_ls_loop (Walks.list (A := A.in1) hh s.heap.objs.size l (Nat.ne_of_lt hlt) (as.map Value.ref).toArray) as xss (fun i v hv => ?_) (s.heap.push { cls := .type "list_iterator", data := .fields #[.ref l, .int 0 0] }).objs.size (fun hm => ?_) (by simp [hlen]) (fun i h2 st b hb => ?_) _ 0 _ l0 acc _ rfl (Nat.zero_le _) ⟨?_, ?_⟩ (Heap.get?_push_size _ rfl) ⟨_, kp2 _ _ e0⟩ (Nat.ne_of_lt (Nat.lt_trans lt0 hI)) (fun hm => ?_) (fun j a xs ha hx => ⟨?_, ?_, fun hm => ?_⟩) (by simpa using hsz) fun h' tk t' hk hL2 ht => ?_⟩
  · simp only [List.getElem?_toArray, List.getElem?_map] at hv
    obtain ⟨a, ha, rfl⟩ := Option.map_eq_some_iff.mp hv
    have hi : i < xss.length := by rw [← hlen]; exact (List.getElem?_eq_some_iff.mp ha).1
    exact ⟨a, _, ha, List.getElem?_eq_getElem hi, rfl⟩
  · simp only [List.mem_cons, List.not_mem_nil, or_false] at hm
    rcases hm with hm | hm
    · exact Nat.ne_of_gt hI hm
    · exact Nat.ne_of_gt (Nat.lt_trans hlt hI) hm
  · rw [List.mem_singleton.mp hb]
    obtain ⟨o, e, _⟩ := st.1
    exact ⟨o, e⟩
  · exact ⟨_, Heap.get?_push_of_some _ (Heap.get?_push_size _ rfl), rfl, rfl⟩
  · exact (hl.push _).push _
  · rw [List.mem_singleton] at hm; exact Nat.ne_of_lt lt0 hm
  · obtain ⟨n1, sl1, e1⟩ := hL j a xs ha hx
    exact ⟨n1, sl1, kp2 _ _ e1⟩
  · obtain ⟨n1, sl1, e1⟩ := hL j a xs ha hx
    exact Nat.ne_of_lt (Nat.lt_trans (Heap.lt_size e1) hI)
  · obtain ⟨n1, sl1, e1⟩ := hL j a xs ha hx
    rw [List.mem_singleton] at hm; exact Nat.ne_of_lt (Heap.lt_size e1) hm
  · refine h h' tk t' (fun b o e => hk b o (fun hm => ?_) (fun z => ?_) (kp2 b o e)) (by simpa using hL2) ?_
    · rw [List.mem_singleton] at hm; exact Nat.ne_of_lt (Heap.lt_size e) hm
    · exact Nat.ne_of_lt (Nat.lt_trans (Heap.lt_size e) hI) z
    · rcases ht with ⟨z1, z2⟩ | z
      · exact .inl ⟨List.eq_nil_of_length_eq_zero (by simpa using z1), z2⟩
      · exact .inr (Nat.le_of_lt (Nat.lt_trans hI z))
end
section
variable {X : Cx}
def rSum2 (K : PySem.W.Frag) : List V → Hp → VK → Prop := fun vs H Q => ∃ (p q : Addr) (as : List Addr) (ys : List V) (zss : List (List V)), vs = [.ref p, .ref q] ∧ SqL K H p (as.map V.ref) ∧ H q = some (.lst ys) ∧ as.length = zss.length ∧ (∀ (j : Nat) a zs, as[j]? = some a → zss[j]? = some zs → SqL K H a zs) ∧ (ys ++ zss.flatten).length ≤ sizeLine ∧ (as = [] → Q (.ref q) H) ∧ (∀ l, H l = none → Q (.ref l) (upd H l (.lst (ys ++ zss.flatten))))
theorem vals_refs : ∀ {as : List Addr} {its : List Value}, Vals (as.map V.ref) its → its = as.map Value.ref
  | [], _, .nil => rfl
  | a :: as, _, .cons r t => by
    have e : _ = Value.ref a := r
    rw [e, vals_refs t]; rfl
theorem lists_of {pins : List (Addr × Obj)} {σ : L2.St} {H : Hp} {s : Shared} (I : Inv X pins σ H s) : ∀ (as : List Addr) (zss : List (List V)), as.length = zss.length → (∀ (j : Nat) a zs, as[j]? = some a → zss[j]? = some zs → SqL X.K H a zs) →
    ∃ xss : List (List Value), as.length = xss.length ∧ (∀ (j : Nat) a xs, as[j]? = some a → xss[j]? = some xs → IsL s.heap a xs) ∧ Vals zss.flatten xss.flatten
  | [], [], _, _ => ⟨[], rfl, fun j a xs h => (by simp at h), .nil⟩
  | [], _ :: _, h, _ => by cases h
  | _ :: _, [], h, _ => by cases h
  | a :: as, zs :: zss, hl, h => by
    obtain ⟨xss, h1, h2, h3⟩ := lists_of I as zss (by simpa using hl) fun j b ys e1 e2 => h (j + 1) b ys (by simpa using e1) (by simpa using e2)
    obtain ⟨its, r, pl, _⟩ := I.list (h 0 a zs rfl rfl)
    refine ⟨its :: xss, by simp [h1], fun j b ys e1 e2 => ?_, by rw [List.flatten_cons, List.flatten_cons]; exact r.append h3⟩
    cases j with
    | zero =>
      simp at e1 e2
      subst e1 e2
      obtain ⟨⟨cls, dd, data, sl⟩, n, ho, hc, hd, hs⟩ := pl
      simp only at hc hd hs
      subst hc hd hs
      exact ⟨n, sl, ho⟩
    | succ j => exact h2 j b ys (by simpa using e1) (by simpa using e2)
end
theorem isList_of {h : Heap} {l : Addr} {its : Array Value} (p : PlainL h l its) : h.IsList l its := by
  obtain ⟨⟨cls, dd, data, sl⟩, n, ho, hc, hd, hs⟩ := p
  simp only at hc hd hs
  subst hc hd hs
  exact ⟨_, ho, rfl, n, rfl⟩
theorem cr_sum2 {X : Cx} (hc : X.calm = true) : CallR X (.builtin "sum") (rSum2 X.K) := by
  intro pins s σ H xs us Q I r h
  obtain ⟨p, q, as, ys, zss, rfl, hp, hq, hlen, hL, hz, q0, q1⟩ := h
  obtain ⟨u, w', rfl, r1, r2⟩ := vals2 r
  cases r1
  cases r2
  obtain ⟨its, rp, pl, _⟩ := I.list hp
  obtain ⟨_, its0, n0, rq, _, e0⟩ := I.lstM hq
  have ei := vals_refs rp
  subst ei
  obtain ⟨xss, h1, h2, h3⟩ := lists_of I as zss hlen hL
  have rv := rq.append h3
  have ev := rv.length
  refine sum_ls (I.ok.hd hc) (isList_of pl) ⟨n0, e0⟩ h1 h2 (by omega) fun h' tk t' k hl ht => ?_
  rcases ht with ⟨z, rfl⟩ | z
  · exact ⟨.ref _, H, I.kept k, rfl, q0 z⟩
  · obtain ⟨n, e⟩ := hl
    exact ⟨.ref t', _, I.laid (a := t') (o := .lst (ys ++ zss.flatten)) k z ⟨hz, _, n, rv, e⟩, rfl, q1 _ (I.hok.fresh z)⟩
section
variable [Tb] {c : CxD} {B : Bs} {a b : Expr} {sl sl1 sl2 : List Sl} {p q : Bool} {k1 : Kd} {pos p1 : Pos}
theorem trs_lists {K : PySem.W.Frag} {H : Hp} : ∀ {dss : List (List PyData)} {xs : List V}, Trs K H xs (dss.map .list) → ∃ (as : List Addr) (zss : List (List V)), xs = as.map V.ref ∧ as.length = zss.length ∧ as.length = dss.length ∧ (∀ (j : Nat) a zs, as[j]? = some a → zss[j]? = some zs → SqL K H a zs) ∧ Trs K H zss.flatten dss.flatten
  | [], _, h => by
    cases h
    exact ⟨[], [], rfl, rfl, rfl, fun j a zs h => (by simp at h), .nil⟩
  | ds :: dss, _, h => by
    cases h with
    | cons h t =>
      obtain ⟨a, zs, rfl, h1, h2⟩ := tr_lst h
      obtain ⟨as, zss, rfl, e1, e2, e3, e4⟩ := trs_lists t
      refine ⟨a :: as, zs :: zss, rfl, by simp [e1], by simp [e2], fun j b ys f1 f2 => ?_, by rw [List.flatten_cons, List.flatten_cons]; exact h2.app e4⟩
      cases j with
      | zero => simp at f1 f2; subst f1 f2; exact h1
      | succ j => exact e3 j b ys (by simpa using f1) (by simpa using f2)
/-- sum(xss, [..]) -/
theorem ev_sum2 {ds0 : List PyData} {dss : List (List PyData)} (ha : EV c B a sl p k1 sl1) (hb : EV c B b sl1 q (.fr (.lst ds0)) sl2) (h1 : LsK k1 (dss.map .list) := by first | exact .st | exact .ls | exact .fr) (hz : ds0.length + dss.flatten.length ≤ 1000000) (hk : (q || k1.firm) = true := by rfl) (hm : c.mg "sum" = none) (hg : c.sc.names.lookup ("sum" : Str) = some .globalImplicit := by rfl)
    (he : ∀ env, starEach [a, b] env = (false, eval a env) :: starEach [b] env := by intro env; rfl) (he2 : ∀ env, starEach [b] env = (false, eval b env) :: starEach [] env := by intro env; rfl) (hpl : ∀ env, (backTo pos (starEach [b] env)).any (·.1) = false := by intro env; rfl) :
    EV c B (.Call (.Name "sum" p1) [a, b] [] pos) sl (p && q) (.fr (.lst (ds0 ++ dss.flatten))) sl2 := by
  obtain ⟨ta, ga, sa⟩ := ha
  obtain ⟨tb, gb, sb⟩ := hb
  refine ⟨tCB (rSum2 c.K) (tCons ta (tCons tb tNil)), fun X hX => pe_callB (by rw [← hX.hK]; exact cr_sum2 hX.calm) (hX.g _ hg) (by rw [hX.hm]; exact hm) (by decide +kernel) (pa_cons (ga X hX) (pa_cons (gb X hX) pa_nil (he2 _)) (he _)) (by decide) (by decide) (he _) (hpl _), fun S H σ I Q fn => ?_⟩
  refine sa S H σ I _ fun x S1 H1 I1 a1 x1 f1 => sb S1 H1 σ I1 _ fun y S2 H2 I2 a2 x2 f2 => ?_
  obtain ⟨l, xs, rfl, hl, tx⟩ := h1.rd I2 (x1.adv a2 hk)
  have x2' := x2
  obtain ⟨m, rfl, n1, n2, ⟨ys, hy, ty⟩, _⟩ := x2'
  obtain ⟨as, zss, rfl, e1, e2, e3, e4⟩ := trs_lists tx
  refine ⟨l, m, as, ys, zss, rfl, hl, hy, e1, fun j a zs f1 f2 => I2.sh.seq (e3 j a zs f1 f2), ?_, fun z => ?_, fun z hn => (Mw.fin fn (a1.trans a2) fun h => h).fresh I2 hn (ty.app e4)⟩
  · have := ty.len; have := e4.len
    rw [List.length_append, sizeLine_eq]; omega
  · have hd : dss = [] := by
      subst z
      exact List.eq_nil_of_length_eq_zero e2.symm
    subst hd
    simp only [List.flatten_nil, List.append_nil] at fn
    exact fn _ S2 H2 I2 (a1.trans a2) x2 (f2.back a1)
end
end Mw

namespace Mw
open PySem PySem.Spec L2
variable [Tb]
variable {c : CxD} {B : Bs} {e a b elt iter test : Expr} {sl sl1 sl2 : List Sl} {p q z : Bool} {pos p1 p2 p3 : Pos} {k k1 : Kd} {ds : List PyData} {xs : List Int} {scope : Scope}
theorem fm_filter {α : Type} (g : α → Bool) : ∀ xs : List α, xs.filterMap (fun x => if g x = true then some x else none) = xs.filter g
  | [] => rfl
  | x :: r => by
    by_cases h : g x = true
    · rw [List.filterMap_cons_some (b := x) (by rw [if_pos h]), List.filter_cons_of_pos h, fm_filter g r]
    · rw [List.filterMap_cons_none (by rw [if_neg h]), List.filter_cons_of_neg h, fm_filter g r]
theorem evN_filter {nm : Str} {tp : Pos} (j : Nat) (g : Int → Bool) (hi : EI c B (.Name nm tp) iter sl p (nums xs) z sl1)
    (hs : ∀ (i : Nat) (x : Int), xs[i]? = some x → TV (c.blk scope) B test ((sl1.set j .no).set j (.val (.int x))) true (g x) ((sl1.set j .no).set j (.val (.int x))))
    (hl : xs.length ≤ 1000000) (hj : (sl1[j]?).isSome = true := by rfl) (hN : c.N[j]? = some nm := by rfl) (hv : Vis scope nm := by first | exact .inl rfl | exact .inr (.inl rfl) | exact .inr (.inr rfl)) (h1 : (nm == ("__debug__" : Str)) = false := by decide) (h2 : (nm == ("__classdict__" : Str)) = false := by decide) (hg : GT (c.blk scope) B (.Name nm tp) (.none) [j] (sl1.set j .no) ((sl1.set j .no).set j (.val .none)) := by exact gt_name _) (hg2 : ∀ d, GT (c.blk scope) B (.Name nm tp) d [j] (sl1.set j .no) ((sl1.set j .no).set j (.val d)) := by intro d; exact gt_name _)
    (ok : blkC c.N c.sc scope [(nm, j)] = true := by (try dsimp only [CxD.blk]); decide +kernel) (nd : c.N.Nodup := by assumption) (hf : ∀ env x, foldedSetIterable iter env x = pure x := by intro _ _; rfl) : EV c B (.ListComp (.Name nm p3) [⟨.Name nm tp, iter, [test], 0⟩] scope pos) sl p (.fr (.lst (nums (xs.filter g)))) sl1 :=
  (evN_comp j (fun x => if g x = true then some x else none) hi (fun i x hx => ⟨g x, tvs_one (hs i x hx), fun h => ⟨x, by rw [if_pos h], ev_val j (by rw [List.getElem?_set_self]; rw [List.length_set]; cases e : sl1[j]? with
    | none => rw [e] at hj; cases hj
    | some u => exact (List.getElem?_eq_some_iff.mp e).1) hN hv h1 h2⟩, fun h => by rw [if_neg (by rw [h]; decide)]⟩) hl hg hg2 ok nd hf).to (by rw [fm_filter])

/-! a comprehension whose test or value changes objects -/
section
variable {c : CxD} {B : Bs} {tg elt iter : Expr} {ifs : List Expr} {sl sl1 : List Sl} {p : Bool} {pos : Pos} {ds : List PyData} {scope : Scope} {own : List (Str × Nat)} {K : PySem.W.Frag} {S S' H H' : Hp} {σ σ' : L2.St}
def TVX (c : CxD) (B : Bs) (es : List Expr) (sl : List Sl) (p b : Bool) (sl' : List Sl) : Prop := ∃ t, (∀ X, InCx c X → PTs X es t) ∧ SemT c.K B t sl p b sl'
theorem tvx_nil : TVX c B [] sl true true sl := tvs_nil
theorem tvx_one {e : Expr} {b : Bool} (h : TV c B e sl p b sl1) : TVX c B [e] sl p b sl1 := by
  obtain ⟨t, h, hs⟩ := h
  exact ⟨_, fun X hX => pts_one (h X hX), hs⟩
theorem wipeS_get {sl : List Sl} {m : Nat} : ∀ {vs : List Nat}, (wipeS sl vs)[m]? = if m ∈ vs then (sl[m]?).map fun _ => .no else sl[m]?
  | [] => by simp [wipeS]
  | v :: vs => by
    have ih := wipeS_get (sl := sl) (m := m) (vs := vs)
    have hl : ∀ vs : List Nat, (wipeS sl vs).length = sl.length := fun vs => by
      induction vs with
      | nil => rfl
      | cons a r ih => unfold wipeS; rw [List.length_set, ih]
    unfold wipeS
    by_cases h : m = v
    · subst h
      rw [List.getElem?_set]
      simp only [if_true]
      rw [hl]
      by_cases hm : m < sl.length
      · simp [hm]
      · simp [hm]
    · rw [List.getElem?_set_ne (Ne.symm h), ih]
      simp [h]
theorem wipeS_idem {sl : List Sl} {vs : List Nat} : wipeS (wipeS sl vs) vs = wipeS sl vs := by
  refine List.ext_getElem? fun m => ?_
  rw [wipeS_get, wipeS_get]
  by_cases h : m ∈ vs
  · rw [if_pos h, if_pos h, Option.map_map]; rfl
  · rw [if_neg h, if_neg h]
/-- slots that hold no objects of their own -/
def plainAt (sl : List Sl) (vs : List Nat) : Bool := vs.all fun j => match sl[j]? with
  | some (.own _) => false
  | some (.io _ _) => false
  | some (.prv _ _) => false
  | _ => true
theorem plainAt_fp {sl : List Sl} {vs : List Nat} (h : plainAt sl vs = true) {j : Nat} {a : Addr} (hj : j ∈ vs) : ¬ FpAt σ sl j a := by
  rintro ⟨s, x, e1, e2, f⟩
  have := List.all_eq_true.mp h j hj
  rw [e1] at this
  rcases f with ⟨o, ho, _⟩ | ⟨d, fp, rfl, _⟩
  · cases s <;> first | (cases ho; done) | cases this
  · cases this
theorem plainAt_wipe {sl : List Sl} {vs : List Nat} : plainAt (wipeS sl vs) vs = true := List.all_eq_true.mpr fun j hj => by
  rw [wipeS_get, if_pos hj]
  cases sl[j]? <;> rfl
theorem ownAt_like {sl sl' : List Sl} {vs : List Nat} (hw : wipeS sl vs = wipeS sl' vs) (hp : plainAt sl vs = true) (hσ : ∀ j, j ∉ vs → σ[j]? = σ'[j]?) {a : Addr} (h : OwnAt σ sl a) : OwnAt σ' sl' a := by
  obtain ⟨j, f⟩ := h
  by_cases hj : j ∈ vs
  · exact absurd f (plainAt_fp hp hj)
  · obtain ⟨s, x, e1, e2, f⟩ := f
    have := congrArg (·[j]?) hw
    simp only [wipeS_get, if_neg hj] at this
    exact ⟨j, s, x, by rw [← this]; exact e1, by rw [← hσ j hj]; exact e2, f⟩
theorem Stt.unwipe {vs : List Nat} (I : Stt K B S H (L2.wipe σ vs) (wipeS sl vs)) : Stt K B S H σ (wipeS sl vs) where
  s0 := I.s0
  sh := I.sh
  new := I.new
  keep := I.keep
  dom := I.dom
  lsd := I.lsd
  len := by rw [← I.len, wipe_length]
  slot := fun i s e => by
    obtain ⟨x, hx, ok⟩ := I.slot i s e
    rw [wipe_get] at hx
    by_cases hi : i ∈ vs
    · rw [wipeS_get, if_pos hi] at e
      cases h1 : sl[i]? with
      | none => rw [h1] at e; cases e
      | some s1 =>
        rw [h1] at e
        cases e
        rw [if_pos hi] at hx
        cases h2 : σ[i]? with
        | none => rw [h2] at hx; cases hx
        | some y => exact ⟨y, rfl, trivial⟩
    · rw [if_neg hi] at hx
      exact ⟨x, hx, ok⟩
  dis := fun i j a h1 h2 => by
    have go : ∀ m, FpAt σ (wipeS sl vs) m a → FpAt (L2.wipe σ vs) (wipeS sl vs) m a := fun m h => by
      by_cases hm : m ∈ vs
      · exact absurd h (plainAt_fp plainAt_wipe hm)
      · obtain ⟨s, x, e1, e2, f⟩ := h
        exact ⟨s, x, e1, by rw [wipe_get, if_neg hm]; exact e2, f⟩
    exact I.dis i j a (go i h1) (go j h2)
  tabs := I.tabs
  tbk := I.tbk
  snt := I.snt
  sm := I.sm
theorem Stt.forgets (I : Stt K B S H σ sl) : ∀ vs : List Nat, Stt K B S H σ (wipeS sl vs)
  | [] => I
  | v :: vs => (Stt.forgets I vs).forget v
theorem compX_core (out : Nat → List PyData) (sls : Nat → List Sl) (hi : EI c B tg iter sl p ds true sl1) (h0 : out 0 = []) (hs0 : sls 0 = wipeS sl1 (own.map (·.2)))
    (hs : ∀ (i : Nat) (d : PyData), ds[i]? = some d → ∃ js s2 s3 s4 b q1 q2, GT (c.blk scope) B tg d js (sls i) s2 ∧ (∀ x ∈ js, x ∈ own.map (·.2)) ∧ plainAt s2 (own.map (·.2)) = true ∧ wipeS s2 (own.map (·.2)) = sls i ∧ TVX (c.blk scope) B ifs s2 q1 b s3 ∧
      (b = true → ∃ d', out (i + 1) = out i ++ [d'] ∧ EV (c.blk scope) B elt s3 q2 (.st d') s4 ∧ wipeS s4 (own.map (·.2)) = sls (i + 1)) ∧ (b = false → out (i + 1) = out i ∧ wipeS s3 (own.map (·.2)) = sls (i + 1)))
    (hl : ds.length ≤ 1000000) : ∃ wi g tt, (∀ X, InCx c X → PI X tg iter wi) ∧ (∀ X, InCx (c.blk scope) X → PG X tg g) ∧ (∀ X, InCx (c.blk scope) X → PTs X ifs tt) ∧
      SemE c.K B (tLc wi g tt (rE (c.blk scope) elt) (own.map (·.2))) sl false (.fr (.lst (out ds.length))) (sls ds.length) := by
  obtain ⟨wi, gi, si⟩ := hi
  let c' := c.blk scope
  let vs := own.map (·.2)
  let g : TG := fun v σ H Q => ∃ g : TG, (∀ X, InCx c' X → PG X tg g) ∧ g v σ H Q
  let tt : TT := fun σ H Q => ∃ t, (∀ X, InCx c' X → PTs X ifs t) ∧ t σ H Q
  have gP : ∀ X, InCx c' X → PG X tg g := fun X hX => ⟨fun pins s σ H v u Q I r ⟨g, hg, h⟩ => (hg X hX).run pins s σ H v u Q I r h⟩
  have tP : ∀ X, InCx c' X → PTs X ifs tt := fun X hX => ⟨fun pins s σ H Q I ⟨t, ht, h⟩ => (ht X hX).run pins s σ H Q I h⟩
  have wp : ∀ i ≤ ds.length, wipeS (sls i) vs = sls i := fun i hi => by
    cases i with
    | zero => rw [hs0]; exact wipeS_idem
    | succ i =>
      obtain ⟨js, s2, s3, s4, b, q1, q2, _, _, _, _, _, h1, h2⟩ := hs i _ (List.getElem?_eq_getElem (show i < ds.length by omega))
      cases b with
      | true =>
        obtain ⟨_, _, _, e⟩ := h1 rfl
        rw [← e]; exact wipeS_idem
      | false => rw [← (h2 rfl).2]; exact wipeS_idem
  have ol : ∀ i ≤ ds.length, (out i).length ≤ i := fun i => by
    induction i with
    | zero => intro _; rw [h0]; exact Nat.le_refl _
    | succ i ih =>
      intro hi
      have := ih (by omega)
      obtain ⟨js, s2, s3, s4, b, q1, q2, _, _, _, _, _, h1, h2⟩ := hs i _ (List.getElem?_eq_getElem (show i < ds.length by omega))
      cases b with
      | true =>
        obtain ⟨_, e, _⟩ := h1 rfl
        rw [e, List.length_append, List.length_singleton]; omega
      | false => rw [(h2 rfl).1]; omega
  refine ⟨wi, g, tt, gi, gP, tP, fun S H σ I Q fn => si S H σ I _ fun It S1 H1 I1 a1 it => ?_⟩
  · intro D nD
    obtain ⟨nS1, n01, naD⟩ := I1.notIn nD
    refine ⟨fun i m H => m = ds.length - i ∧ i ≤ ds.length ∧ ∃ S2 acc, Stt c.K B S2 H σ (sls i) ∧ Adv σ sl1 S1 H1 (sls i) S2 H false ∧ S2 D = none ∧ H D = some (.lst acc) ∧ Trs c.K S2 acc (out i),
      ⟨ds.length, by simp, Nat.zero_le _, S1, [], by rw [hs0]; exact (I1.laid nD).forgets _, ⟨.refl _, fun a o e1 e2 => (by rw [e1] at e2; cases e2), fun a o e => ⟨o, by rw [upd_ne (ne_of_none e nD)]; exact e⟩, fun a o e _ _ => by rw [upd_ne (ne_of_none e nD)]; exact e, (fun h => nomatch h), fun a h => ?_⟩, nS1, upd_same, by rw [h0]; exact .nil⟩, ?_⟩
    · rw [hs0] at h
      obtain ⟨j, s, x, e1, e2, f⟩ := h
      rw [wipeS_get] at e1
      split at e1
      · cases e3 : sl1[j]? with
        | none => rw [e3] at e1; cases e1
        | some s3 => rw [e3] at e1; cases e1; exact absurd f fpS_no
      · exact ⟨j, s, x, e1, e2, f⟩
    rintro i m H2 ⟨rfl, hil, S2, acc, I2, a2, nS2, hD, tacc⟩
    obtain ⟨it1, it2⟩ := it S2 H2 a2.s I2.sh (by rw [if_pos rfl]; exact same_sam (a2.s.trans I2.sh)) i
    by_cases hlt : i < ds.length
    · have hget := List.getElem?_eq_getElem hlt
      obtain ⟨go, yl⟩ := it1 _ hget
      refine .inr ⟨go, fun H' => ∃ S2 acc, Stt c.K B S2 H' σ (sls (i + 1)) ∧ Adv σ sl1 S1 H1 (sls (i + 1)) S2 H' false ∧ S2 D = none ∧ H' D = some (.lst acc) ∧ Trs c.K S2 acc (out (i + 1)),
        fun H' h => ⟨ds.length - (i + 1), by omega, rfl, hlt, h⟩, fun x H3 y => ?_⟩
      obtain ⟨S3, b1, b2, b3, b4, bn, tx⟩ := yl x H3 y
      have I3 := I2.grow b1 b3 b2 b4 (bn I2.snt)
      have a3 : Adv σ (sls i) S2 H2 (sls i) S3 H3 true := ⟨b1, b4, fun a o e => ⟨o, b3 _ _ e⟩, fun a o e _ _ => b3 _ _ e, fun _ => same_sam b3, fun _ h => h⟩
      have hD3 : H3 D = some (.lst acc) := b3 _ _ hD
      have n3 : S3 D = none := by
        cases e : S3 D with
        | none => rfl
        | some o =>
          have := b4 D o e nS2
          rw [hD] at this
          cases this
      obtain ⟨js, s2, s3, s4, b, q1, q2, ⟨g0, gp0, gs0⟩, hj, hp2, hw2, ⟨t0, tp0, ts0⟩, hy, hn⟩ := hs i _ hget
      have I3w : Stt c.K B S3 H3 (L2.wipe σ vs) (sls i) := by
        have := I3.wipe vs
        rwa [wp i hil] at this
      refine ⟨g0, gp0, gs0 S3 H3 _ x I3w tx _ fun σ' I' l' k' => ⟨wipe_same hj l' k', t0, tp0, ?_⟩⟩
      have hws : L2.wipe σ' vs = L2.wipe σ vs := wipe_same hj l' k'
      have hσ : ∀ j, j ∉ vs → σ'[j]? = σ[j]? := fun j hjv => by
        have := congrArg (·[j]?) hws
        simp only [wipe_get, if_neg hjv] at this
        exact this
      have toO : ∀ a, OwnAt σ' s2 a → OwnAt σ (sls i) a := fun a h => ownAt_like (by rw [hw2, wp i hil]) hp2 hσ h
      have naD2 : ¬ OwnAt σ (sls i) D := fun h => naD (a2.w D h)
      -- back in the def's own slots
      have back : ∀ {S4 H4 sE qq}, Stt c.K B S4 H4 σ' sE → Adv σ' s2 S3 H3 sE S4 H4 qq → wipeS sE vs = sls (i + 1) → Stt c.K B S4 H4 σ (sls (i + 1)) ∧ Adv σ (sls i) S3 H3 (sls (i + 1)) S4 H4 false ∧ S4 D = none ∧ H4 D = some (.lst acc) := fun {S4 H4 sE qq} J aa hE => by
        have J1 := J.wipe vs
        rw [hws] at J1
        have J2 := J1.unwipe
        rw [hE] at J2
        refine ⟨J2, ⟨aa.s, aa.n, aa.d, fun a o e ht hno => aa.k a o e ht fun h => hno (toO a h), (fun h => nomatch h), fun a h => ?_⟩, ?_, aa.k D _ hD3 (fun ps z => nomatch z) fun h => naD2 (toO D h)⟩
        · refine toO a (aa.w a ?_)
          rw [← hE] at h
          exact ownAt_like (σ := σ) (σ' := σ') wipeS_idem plainAt_wipe (fun j hj => (hσ j hj).symm) h
        · cases e : S4 D with
          | none => rfl
          | some o =>
            have := aa.n D o e n3
            rw [hD3] at this
            cases this
      refine ts0 S3 H3 σ' I' _ fun S4 H4 I4 a4 => ?_
      cases b with
      | true =>
        rw [if_pos rfl]
        obtain ⟨d', hd', ev, hE⟩ := hy rfl
        refine ev.rr S4 H4 σ' I4 _ fun y S5 H5 I5 a5 x5 _ => ?_
        obtain ⟨J, A5, nD5, hD5⟩ := back I5 (a4.trans a5) hE
        have A2 := (a2.trans a3).trans A5
        have naE : ¬ OwnAt σ (sls (i + 1)) D := fun h => naD (A2.w D h)
        refine ⟨acc, hD5, ?_, S5, acc ++ [y], J.side nD5 n01 naE hD5 lst_soft, ⟨A2.s, A2.n, fun a o e => ?_, fun a o e ht hno => ?_, (fun h => nomatch h), A2.w⟩, nD5, upd_same, ?_⟩
        · have e1 := tacc.len
          have e2 := ol i hil
          rw [sizeLine_eq]
          omega
        · rw [upd_ne (ne_of_none e nD)]; exact A2.d a o e
        · rw [upd_ne (ne_of_none e nD)]; exact A2.k a o e ht hno
        · rw [hd']
          exact (tacc.mono (a3.s.trans A5.s)).app (.one x5)
      | false =>
        rw [if_neg Bool.false_ne_true]
        obtain ⟨e1, hE⟩ := hn rfl
        obtain ⟨J, A5, nD5, hD5⟩ := back I4 a4 hE
        refine ⟨S4, acc, J, (a2.trans a3).trans A5, nD5, hD5, ?_⟩
        rw [e1]
        exact tacc.mono (a3.s.trans A5.s)
    · have e1 : i = ds.length := by omega
      subst e1
      refine .inl ⟨it2 (Nat.le_refl _), ?_⟩
      refine fn _ S2 H2 I2 ((a1.trans a2).weak fun h => nomatch h) ⟨D, rfl, nS2, n01, ⟨acc, hD, tacc⟩, fun h => naD (a2.w D h)⟩ fun l e => ?_
      cases e
      cases e2 : H D with
      | none => rfl
      | some o =>
        obtain ⟨o', e3⟩ := a1.d D o e2
        rw [nD] at e3
        cases e3
theorem ev_compX (own : List (Str × Nat)) (out : Nat → List PyData) (sls : Nat → List Sl) (hi : EI c B tg iter sl p ds true sl1)
    (hs : ∀ (i : Nat) (d : PyData), ds[i]? = some d → ∃ js s2 s3 s4 b q1 q2, GT (c.blk scope) B tg d js (sls i) s2 ∧ (∀ x ∈ js, x ∈ own.map (·.2)) ∧ plainAt s2 (own.map (·.2)) = true ∧ wipeS s2 (own.map (·.2)) = sls i ∧ TVX (c.blk scope) B ifs s2 q1 b s3 ∧
      (b = true → ∃ d', out (i + 1) = out i ++ [d'] ∧ EV (c.blk scope) B elt s3 q2 (.st d') s4 ∧ wipeS s4 (own.map (·.2)) = sls (i + 1)) ∧ (b = false → out (i + 1) = out i ∧ wipeS s3 (own.map (·.2)) = sls (i + 1)))
    (hl : ds.length ≤ 1000000) (h0 : out 0 = [] := by rfl) (hs0 : sls 0 = wipeS sl1 (own.map (·.2)) := by rfl) (ok : blkC c.N c.sc scope own = true := by (try dsimp only [CxD.blk]); decide +kernel) (nd : c.N.Nodup := by assumption) (hf : ∀ env x, foldedSetIterable iter env x = pure x := by intro _ _; rfl) : EV c B (.ListComp elt [⟨tg, iter, ifs, 0⟩] scope pos) sl false (.fr (.lst (out ds.length))) (sls ds.length) := by
  obtain ⟨wi, g, tt, gi, gP, tP, sem⟩ := compX_core out sls hi h0 hs0 hs hl
  have sk : scope.kind = .function := (blkOk_by ok).kind
  exact ⟨_, fun X hX => pe_lc hX.calm (by rw [hX.hN]; exact nd) (gi X hX) (blk_in hX ok) (fun s H C cl fp => gP _ (hX.block sk)) (fun s H C cl fp => tP _ (hX.block sk)) (fun s H C cl fp => pe_rE (hX.block sk)) (hf _), sem⟩
theorem go_setX {R : Rt} {rest : List Stmt} {p1 p2 : Pos} (i : Nat) {y : Str} (own : List (Str × Nat)) (out : Nat → List PyData) (sls : Nat → List Sl) (hi : EI c B tg iter sl p ds true sl1)
    (hs : ∀ (i : Nat) (d : PyData), ds[i]? = some d → ∃ js s2 s3 s4 b q1 q2, GT (c.blk scope) B tg d js (sls i) s2 ∧ (∀ x ∈ js, x ∈ own.map (·.2)) ∧ plainAt s2 (own.map (·.2)) = true ∧ wipeS s2 (own.map (·.2)) = sls i ∧ TVX (c.blk scope) B ifs s2 q1 b s3 ∧
      (b = true → ∃ d', out (i + 1) = out i ++ [d'] ∧ EV (c.blk scope) B elt s3 q2 (.st d') s4 ∧ wipeS s4 (own.map (·.2)) = sls (i + 1)) ∧ (b = false → out (i + 1) = out i ∧ wipeS s3 (own.map (·.2)) = sls (i + 1)))
    (h2 : GO c B rest ((sls ds.length).set i (.own (.lst (out ds.length)))) R) (hl : ds.length ≤ 1000000) (hii : ((sls ds.length)[i]?).isSome = true := by rfl) (h0 : out 0 = [] := by rfl) (hs0 : sls 0 = wipeS sl1 (own.map (·.2)) := by rfl) (ok : blkC c.N c.sc scope own = true := by (try dsimp only [CxD.blk]); decide +kernel) (hN : c.N[i]? = some y := by rfl) (nd : c.N.Nodup := by assumption) (hx : c.sc.names.lookup y = some .local := by rfl) (hk : (scope.names.any fun (n, k) => n == y && (k == .local || k == .cell)) = false := by decide +kernel) (hln : (p1.line == pos.line) = true := by rfl)
    (hf : ∀ env x, foldedSetIterable iter env x = pure x := by intro _ _; rfl) : GO c B (.Assign [.Name y p1] (.ListComp elt [⟨tg, iter, ifs, 0⟩] scope pos) p2 :: rest) sl R := by
  refine go_to ?_ h2
  obtain ⟨wi, g, tt, gi, gP, tP, sem⟩ := compX_core out sls hi h0 hs0 hs hl
  have sk : scope.kind = .function := (blkOk_by ok).kind
  refine ⟨_, fun X hX => ps_setLc hX.calm (by rw [hX.hN]; exact nd) (by rw [hX.hN]; exact hN) (hX.l _ hx) (sw_true hX.kind (hX.l _ hx) hln hk) (gi X hX) (blk_in hX ok) (fun s H C cl fp => gP _ (hX.block sk)) (fun s H C cl fp => tP _ (hX.block sk)) (fun s H C cl fp => pe_rE (hX.block sk)) (hf _), fun S H σ I D q => ?_⟩
  exact sem S H σ I _ fun v S1 H1 I1 a1 x1 _ => q.nx S1 H1 _ _ a1.s (I1.set x1 hii) rfl
/-- name = [..], pure -/
theorem go_setC {R : Rt} {z : Bool} {rest : List Stmt} {p1 p2 : Pos} (i : Nat) {y : Str} (own : List (Str × Nat)) (f : PyData → Option PyData) {es : List PyData} (hi : EI c B tg iter sl p ds z sl1)
    (hs : ∀ (i : Nat) (d : PyData), ds[i]? = some d → ∃ js s2 b, GT (c.blk scope) B tg d js (wipeS sl1 (own.map (·.2))) s2 ∧ (∀ x ∈ js, x ∈ own.map (·.2)) ∧ TVs (c.blk scope) B ifs s2 b ∧ (b = true → ∃ d', f d = some d' ∧ EV (c.blk scope) B elt s2 true (.st d') s2) ∧ (b = false → f d = none))
    (hl : ds.length ≤ 1000000) (he : ds.filterMap f = es) (h2 : GO c B rest (sl1.set i (.own (.lst es))) R) (ok : blkC c.N c.sc scope own = true := by (try dsimp only [CxD.blk]); decide +kernel) (hii : (sl1[i]?).isSome = true := by rfl) (hN : c.N[i]? = some y := by rfl) (nd : c.N.Nodup := by assumption) (hx : c.sc.names.lookup y = some .local := by rfl) (hk : (scope.names.any fun (n, k) => n == y && (k == .local || k == .cell)) = false := by decide +kernel) (hln : (p1.line == pos.line) = true := by rfl)
    (hf : ∀ env x, foldedSetIterable iter env x = pure x := by intro _ _; rfl) : GO c B (.Assign [.Name y p1] (.ListComp elt [⟨tg, iter, ifs, 0⟩] scope pos) p2 :: rest) sl R :=
  go_to (g1_setC i own f hi hs (by rw [he]) hl ok hii hN nd hx hk hln hf) h2
end
end Mw

/-! NwZG: sets of ints: len(set(xs)). -/
namespace Mw
open PySem PySem.Spec L2 PyProof.Rows
/-- the numbers of a list, each once, as first met -/
def dst (xs : List Int) : List Int := xs.foldl (fun t v => if v ∈ t then t else t ++ [v]) []
theorem dst_fold : ∀ (xs t : List Int), t.Nodup → (xs.foldl (fun t v => if v ∈ t then t else t ++ [v]) t).Nodup ∧ ∀ k, k ∈ xs.foldl (fun t v => if v ∈ t then t else t ++ [v]) t ↔ k ∈ t ∨ k ∈ xs
  | [], t, h => ⟨h, fun k => by simp⟩
  | x :: r, t, h => by
    rw [List.foldl_cons]
    by_cases hx : x ∈ t
    · rw [if_pos hx]
      obtain ⟨h1, h2⟩ := dst_fold r t h
      refine ⟨h1, fun k => ?_⟩
      rw [h2, List.mem_cons]
      constructor
      · rintro (a | a)
        · exact .inl a
        · exact .inr (.inr a)
      · rintro (a | rfl | a)
        · exact .inl a
        · exact .inl hx
        · exact .inr a
    · rw [if_neg hx]
      obtain ⟨h1, h2⟩ := dst_fold r (t ++ [x]) (List.nodup_append.mpr ⟨h, by simp, fun a ha b hb e => by rw [List.mem_singleton.mp hb] at e; exact hx (e ▸ ha)⟩)
      refine ⟨h1, fun k => ?_⟩
      rw [h2, List.mem_cons, List.mem_append, List.mem_singleton, or_assoc]
theorem dst_nodup (xs : List Int) : (dst xs).Nodup := (dst_fold xs [] List.nodup_nil).1
theorem mem_dst {xs : List Int} {k : Int} : k ∈ dst xs ↔ k ∈ xs := by unfold dst; rw [(dst_fold xs [] List.nodup_nil).2]; simp
theorem dst_fold_len : ∀ (xs t : List Int), t.Nodup → (xs.foldl (fun t v => if v ∈ t then t else t ++ [v]) t).length ≤ t.length + xs.length ∧ ((xs.foldl (fun t v => if v ∈ t then t else t ++ [v]) t).length = t.length + xs.length ↔ (t ++ xs).Nodup)
  | [], t, h => ⟨by simp, by simp [h]⟩
  | x :: r, t, h => by
    rw [List.foldl_cons]
    by_cases hx : x ∈ t
    · rw [if_pos hx]
      obtain ⟨h1, _⟩ := dst_fold_len r t h
      rw [List.length_cons]
      refine ⟨by omega, fun e => by omega, fun e => ?_⟩
      exact absurd rfl ((List.nodup_append.mp e).2.2 x hx x (by simp))
    · rw [if_neg hx]
      have ht : (t ++ [x]).Nodup := List.nodup_append.mpr ⟨h, by simp, fun a ha b hb e => by rw [List.mem_singleton.mp hb] at e; exact hx (e ▸ ha)⟩
      obtain ⟨h1, h2⟩ := dst_fold_len r (t ++ [x]) ht
      rw [List.length_append, List.length_singleton] at h1 h2
      rw [List.length_cons]
      refine ⟨by omega, ?_⟩
      rw [show t.length + (r.length + 1) = t.length + 1 + r.length by omega, h2, List.append_assoc]; rfl
theorem dst_len (xs : List Int) : (dst xs).length ≤ xs.length := by have := (dst_fold_len xs [] List.nodup_nil).1; unfold dst; simpa using this
theorem dst_full (xs : List Int) : (dst xs).length = xs.length ↔ xs.Nodup := by have := (dst_fold_len xs [] List.nodup_nil).2; unfold dst; simpa using this
theorem dst_first (ns : List Int) : firstMet (fun i => ns.getD i 0) ns.length = dst ns := by
  have e : (List.range ns.length).map (fun i => ns.getD i 0) = ns := by
    refine List.ext_getElem? fun i => ?_
    rw [List.getElem?_map]
    by_cases h : i < ns.length
    · rw [List.getElem?_range h, List.getElem?_eq_getElem h]
      simp [List.getD_eq_getElem?_getD, List.getElem?_eq_getElem h]
    · rw [List.getElem?_eq_none (by omega : ns.length ≤ i), List.getElem?_eq_none (by rw [List.length_range]; omega)]; rfl
  unfold firstMet
  rw [e]
  have f : (step_dedup : List Int → Int → List Int) = fun t v => if v ∈ t then t else t ++ [v] := by
    funext t v
    unfold step_dedup
    have : (t.any (· == v)) = decide (v ∈ t) := by
      rw [Bool.eq_iff_iff, List.any_eq_true, decide_eq_true_eq]
      exact ⟨fun ⟨x, hx, e⟩ => by rw [← beq_iff_eq.mp e]; exact hx, fun h => ⟨v, h, beq_self_eq_true v⟩⟩
    rw [this]
    by_cases h : v ∈ t <;> simp [h]
  rw [f]; rfl
section
variable {X : Cx}
def tLenSetG (K : PySem.W.Frag) (ta : TE) : TE := fun σ H Q => ta σ H fun x H1 => ∃ (l : Addr) (ns : List Int), x = V.ref l ∧ SqL K H1 l (ns.map V.int) ∧ ns.length ≤ 4000 ∧ Q (.int (dst ns).length) H1
theorem pe_lenSetG {a : Expr} {ta : TE} {p p2 q pos : Pos} (hc : X.calm = true) (g1 : Gl X "len") (m1 : X.mg "len" = none) (g2 : Gl X "set") (m2 : X.mg "set" = none) (ha : PE X a ta)
    (st : starEach [a] X.env = (false, eval a X.env) :: starEach [] X.env) : PE X (.Call (.Name "len" p) [.Call (.Name "set" p2) [a] [] q] [] pos) (tLenSetG X.K ta) :=
  ⟨fun pins s σ H Q I h => by
    refine Call_ (ld_blt I g1 m1 PySem.boot_len (PyProof.Rows.callWith_builtin1 (PyProof.Rows.args_cons (Call_ (ld_blt I g2 m2 PyProof.Rows.boot_set (PyProof.Rows.callWith_type1 (PyProof.Rows.args_cons (thn (ha.run pins s σ H _ I h) ?_) st) st rfl))) rfl) rfl rfl))
    rintro v s1 ⟨x, H1, I1, r1, l, ns, rfl, hq, hl, q1⟩
    cases r1
    refine PyProof.Rows.args_nil ?_
    obtain ⟨its, r, pl, -⟩ := I1.list hq
    have hl2 : its.toArray.size = ns.length := by rw [List.size_toArray, ← r.length, List.length_map]
    refine call_set_list (I1.ok.hd hc) pl.isList (by simpa using r.ints) (by unfold scanBound; omega) fun h' tk hS hk => PyProof.Rows.args_nil ?_
    rw [hl2, dst_first] at hS
    obtain ⟨o, es, ep, t, ho, hex, hd, -, -, -, hf, hn⟩ := hS
    have hb := dst_len ns
    refine call_len_set ho hex hd hf (by rw [hn]; omega) ⟨.int (dst ns).length, H1, (I1.kept fun b o e => hk b o (Heap.lt_size e) e).tok _, ⟨_, by rw [hn]⟩, q1⟩⟩
end
variable [Tb]
variable {c : CxD} {B : Bs} {a : Expr} {sl sl1 : List Sl} {p : Bool} {k1 : Kd} {xs : List Int} {p1 p2 q pos : Pos}
theorem ev_lenSet (ha : EV c B a sl p k1 sl1) (m1 : c.mg "len" = none) (m2 : c.mg "set" = none) (hb : xs.length ≤ 4000) (hl : LsK k1 (nums xs) := by first | exact .st | exact .ls | exact .fr) (g1 : c.sc.names.lookup ("len" : Str) = some .globalImplicit := by rfl) (g2 : c.sc.names.lookup ("set" : Str) = some .globalImplicit := by rfl)
    (st : ∀ env, starEach [a] env = (false, eval a env) :: starEach [] env := by intro env; rfl) : EV c B (.Call (.Name "len" p1) [.Call (.Name "set" p2) [a] [] q] [] pos) sl p (.st (.int ((dst xs).length : Nat))) sl1 := by
  obtain ⟨ta, ha, hs⟩ := ha
  refine ⟨tLenSetG c.K ta, fun X hX => by
    have := pe_lenSetG (p := p1) (p2 := p2) (q := q) (pos := pos) hX.calm (hX.gl g1) (by rw [hX.hm]; exact m1) (hX.gl g2) (by rw [hX.hm]; exact m2) (ha X hX) (st _)
    rwa [hX.hK] at this, fun S H σ I Q fn => hs S H σ I _ fun v S1 H1 I1 a1 x1 _ => ?_⟩
  obtain ⟨l, vs, rfl, h1, t⟩ := hl.rd I1 x1
  exact ⟨l, xs, rfl, trs_nums_eq t ▸ h1, hb, fn _ S1 H1 I1 a1 (.int _) trivial⟩
end Mw

/-! NwZH: trees that are handed on: new ones, or taken out of slots. -/
namespace Mw
open PySem PySem.Spec L2
variable [Tb]
def EVG (c : CxD) (B : Bs) (e : Expr) (sl : List Sl) (p : Bool) (t : PTr) (sl' : List Sl) : Prop :=
  ∃ r, (∀ X, InCx c X → PE X e r) ∧ ∀ S H σ, Stt c.K B S H σ sl → ∀ Q : VK, (∀ v S' H' fp, Stt c.K B S' H' σ sl' → Adv σ sl S H sl' S' H' p → TrP c.K S' H' fp v t → fp.Nodup → (∀ a ∈ fp, S' a = none ∧ B.H0 a = none ∧ ¬ OwnAt σ sl' a ∧ (OwnAt σ sl a ∨ H a = none)) → Q v H') → r σ H Q
def AVG (c : CxD) (B : Bs) (es : List Expr) (sl : List Sl) (p : Bool) (ts : List PTr) (sl' : List Sl) : Prop :=
  ∃ r, (∀ X, InCx c X → PA X es r) ∧ ∀ S H σ, Stt c.K B S H σ sl → ∀ Q : List V → Hp → Prop, (∀ vs S' H' fp, Stt c.K B S' H' σ sl' → Adv σ sl S H sl' S' H' p → TrPs c.K S' H' fp vs ts → fp.Nodup → (∀ a ∈ fp, S' a = none ∧ B.H0 a = none ∧ ¬ OwnAt σ sl' a ∧ (OwnAt σ sl a ∨ H a = none)) → Q vs H') → r σ H Q
def PTr.sl : PTr → List Addr → Sl
  | .st d, _ => .val d
  | .ls ds, _ => .own (.lst ds)
  | t, f => .prv t f
section
variable {c : CxD} {B : Bs} {tg e a b d3 : Expr} {es : List Expr} {ss rest : List Stmt} {sl sl1 sl2 sl3 : List Sl} {p q : Bool} {k k1 k2 : Kd} {pos p1 p2 p3 p4 p5 : Pos} {R : Rt} {d : PyData} {ds ds' : List PyData} {t t1 t2 t3 : PTr} {ts : List PTr} {i : Nat} {nm : Str} {fp : List Addr} {o : Ow}
theorem evg_p (h : EVP c B e sl p t sl1) : EVG c B e sl p t sl1 := by
  obtain ⟨r, g, s⟩ := h
  exact ⟨r, g, fun S H σ I Q fn => s S H σ I Q fun v S1 H1 f I1 a1 tp nd n => fn v S1 H1 f I1 a1 tp nd fun a m => ⟨(n a m).1, (n a m).2.1, (n a m).2.2.1, .inr (n a m).2.2.2⟩⟩
theorem EVG.to (h : EVG c B e sl p t sl1) {t' : PTr} (hk : t = t') : EVG c B e sl p t' sl1 := hk ▸ h
theorem adv_forget {σ : L2.St} {S H : Hp} : Adv σ sl S H (sl.set i .no) S H p := ⟨.refl _, fun a o h1 h2 => (by rw [h1] at h2; cases h2), fun a o h => ⟨o, h⟩, fun a o h _ _ => h, fun _ => .refl _, fun a h => by
  rcases ownAt_setS h with h | ⟨x, _, f⟩
  · exact h
  · exact absurd f fpS_no⟩
theorem evg_own (i : Nat) (hs : sl[i]? = some (.own (.lst ds)) := by rfl) (n : Nm c i nm := by exact ⟨rfl, by first | exact .inl rfl | exact .inr (.inl rfl) | exact .inr (.inr rfl), by decide, by decide⟩) : EVG c B (.Name nm pos) sl true (.ls ds) (sl.set i .no) :=
  ⟨tVar i, fun X hX => n.pe hX, fun S H σ I Q q => by
    obtain ⟨y, hy, l, rfl, nS, ⟨xs, hl, tx⟩, n0⟩ := I.slot i _ hs
    refine ⟨_, hy, q _ S H [l] (I.forget i) adv_forget (.ls hl tx) (by simp) fun a m => ?_⟩
    rw [List.mem_singleton.mp m]
    refine ⟨nS, n0, fun ⟨j, z⟩ => ?_, .inl ⟨i, _, _, hs, hy, fpS_own.mpr rfl⟩⟩
    rcases fpAt_setS z with ⟨h1, f1⟩ | ⟨h1, _, _, f1⟩
    · exact h1 (I.dis j i l f1 ⟨_, _, hs, hy, fpS_own.mpr rfl⟩)
    · exact fpS_no f1⟩
theorem evg_m (h : EVM c B e sl i t) : EVG c B e sl true t (sl.set i .no) := by
  obtain ⟨r, g, s⟩ := h
  refine ⟨r, g, fun S H σ I Q fn => s S H σ I Q fun v S1 H1 f I1 a1 tp nd n => fn v S1 H1 f (I1.forget i) (a1.trans adv_forget) tp nd fun a m => ?_⟩
  obtain ⟨z1, z2, z3⟩ := n a m
  refine ⟨z1, z2, fun ⟨j, z⟩ => ?_, .inl (a1.w a ⟨i, z3⟩)⟩
  rcases fpAt_setS z with ⟨h1, f1⟩ | ⟨h1, _, _, f1⟩
  · exact h1 (I1.dis j i a f1 z3)
  · exact fpS_no f1
theorem avg_nil : AVG c B [] sl true [] sl := ⟨tNil, fun _ _ => pa_nil, fun S H σ I Q q => q [] S H [] I .refl .nil (by simp) (fun a m => absurd m (by simp))⟩
theorem avg_cons (ha : EVG c B e sl p t sl1) (hr : AVG c B es sl1 q ts sl2) (hs : ∀ env, starEach (e :: es) env = (false, eval e env) :: starEach es env := by intro env; rfl) : AVG c B (e :: es) sl (p && q) (t :: ts) sl2 := by
  obtain ⟨ta, ga, sa⟩ := ha
  obtain ⟨tb, gb, sb⟩ := hr
  refine ⟨tCons ta tb, fun X hX => pa_cons (ga X hX) (gb X hX) (hs _), fun S H σ I Q fn => ?_⟩
  refine sa S H σ I _ fun x S1 H1 f1 I1 a1 x1 nd1 n1 => sb S1 H1 σ I1 _ fun vs S2 H2 f2 I2 a2 x2 nd2 n2 => ?_
  have up : ∀ b ∈ f1, H2 b = H1 b ∧ S2 b = none ∧ ¬ OwnAt σ sl2 b := fun b m => by
    obtain ⟨u, eu, nu⟩ := x1.dom b m
    obtain ⟨z1, z2, z3, z4⟩ := n1 b m
    exact ⟨(a2.k b u eu (Hard.nt nu) z3).trans eu.symm, a2.notS eu z1, fun z => z3 (a2.w b z)⟩
  refine fn _ S2 H2 (f1 ++ f2) I2 (a1.trans a2) (.cons (x1.ext a2.s fun b m => (up b m).1) x2) ?_ fun b m => ?_
  · refine List.nodup_append.mpr ⟨nd1, nd2, fun b hb b' hb' e => ?_⟩
    subst e
    obtain ⟨u, eu, _⟩ := x1.dom b hb
    rcases (n2 b hb').2.2.2 with z | z
    · exact (n1 b hb).2.2.1 z
    · rw [eu] at z; cases z
  · rcases List.mem_append.mp m with m | m
    · exact ⟨(up b m).2.1, (n1 b m).2.1, (up b m).2.2, (n1 b m).2.2.2⟩
    · obtain ⟨z1, z2, z3, z4⟩ := n2 b m
      refine ⟨z1, z2, z3, ?_⟩
      rcases z4 with z | z
      · exact .inl (a1.w b z)
      · exact .inr (a1.new z)
theorem evg_lst (ha : AVG c B es sl p ts sl1) (hl : ts.length ≤ 1000000 := by exact Nat.le_of_ble_eq_true rfl) : EVG c B (.List es pos) sl p (.lst ts) sl1 := by
  obtain ⟨ta, ga, sa⟩ := ha
  refine ⟨tLst ta, fun X hX => pe_lst (ga X hX), fun S H σ I Q fn => sa S H σ I _ fun vs S1 H1 fp I1 a1 x1 nd n => ⟨by rw [x1.len, sizeLine_eq]; omega, fun l hl => ?_⟩⟩
  obtain ⟨w1, w2, w3⟩ := I1.notIn hl
  have nl : l ∉ fp := fun m => by obtain ⟨u, eu, _⟩ := x1.dom l m; rw [hl] at eu; cases eu
  refine fn _ S1 _ (l :: fp) (I1.laid hl) ((a1.trans (.same (same_new hl) (p := true))).weak fun h => by rw [h]; rfl) (.lst upd_same (x1.ext (.refl _) fun b m => upd_ne fun z => nl (by rw [← z]; exact m))) (List.nodup_cons.mpr ⟨nl, nd⟩) fun b m => ?_
  rcases List.mem_cons.mp m with e | m
  · rw [e]; exact ⟨w1, w2, w3, .inr (a1.new hl)⟩
  · exact n b m
theorem evg_tup {x1 : Nat} (ha : AVG c B es sl p ts sl1) (hl : ts.length ≤ 1000000 := by exact Nat.le_of_ble_eq_true rfl) : EVG c B (.Tuple es x1 pos) sl p (.tup ts) sl1 := by
  obtain ⟨ta, ga, sa⟩ := ha
  refine ⟨tTup ta, fun X hX => pe_tup (ga X hX), fun S H σ I Q fn => sa S H σ I _ fun vs S1 H1 fp I1 a1 x1 nd n => ⟨by rw [x1.len, sizeLine_eq]; omega, fun l hl => ?_⟩⟩
  obtain ⟨w1, w2, w3⟩ := I1.notIn hl
  have nl : l ∉ fp := fun m => by obtain ⟨u, eu, _⟩ := x1.dom l m; rw [hl] at eu; cases eu
  refine fn _ S1 _ (l :: fp) (I1.laid hl) ((a1.trans (.same (same_new hl) (p := true))).weak fun h => by rw [h]; rfl) (.tup upd_same (x1.ext (.refl _) fun b m => upd_ne fun z => nl (by rw [← z]; exact m))) (List.nodup_cons.mpr ⟨nl, nd⟩) fun b m => ?_
  rcases List.mem_cons.mp m with e | m
  · rw [e]; exact ⟨w1, w2, w3, .inr (a1.new hl)⟩
  · exact n b m
/-- return a tree -/
theorem go_retG (h : EVG c B e sl p t sl1) (hr : R.rt (.ft t) sl1) : GO c B (.Return (some e) pos :: rest) sl R := by
  obtain ⟨r, ge, hs⟩ := h
  refine go_cons (M := fun _ => False) ⟨tRet r, fun X hX => ps_ret (ge X hX), fun S H σ I D q => ?_⟩ fun _ h => h.elim
  exact hs S H σ I _ fun v S1 H1 fp I1 a1 x1 nd n => q.rt S1 H1 σ sl1 v (.ft t) a1.s I1 ⟨fp, x1, nd, fun b m => ⟨(n b m).1, (n b m).2.1, (n b m).2.2.1⟩⟩ hr
/-- e[n] of a new tuple; the rest is given up -/
theorem evp_ixT (n : Nat) (h : EVP c B a sl p (.tup ts) sl1) (hb : EV c B b sl1 true (.st (.int (n : Nat))) sl1) (hn : ts[n]? = some t) (hpx : PlainIx b := by exact fun _ _ => rfl) : EVP c B (.Subscript a b pos) sl p t sl1 := by
  obtain ⟨ta, ga, sa⟩ := h
  obtain ⟨tx, gx, sx⟩ := hb
  refine ⟨tOp (rIxT c.K) ta tx, fun X hX => pe_ix (by rw [← hX.hK]; exact ix_tup) (ga X hX) (gx X hX) hpx, fun S H σ I Q fn => ?_⟩
  refine sa S H σ I _ fun v S1 H1 f I1 a1 tp nd n1 => sx S1 H1 σ I1 _ fun w S2 H2 I2 a2 x2 _ => ?_
  have ag : ∀ a ∈ f, H2 a = H1 a := fun a m => by
    obtain ⟨u, eu, nu⟩ := tp.dom a m
    exact ((a2.h rfl).st _ _ eu (Hard.nt nu)).trans eu.symm
  have tp2 := tp.ext a2.s ag
  obtain ⟨l, xs, f0, rfl, rfl, e0, t0⟩ := trp_tup tp2
  obtain ⟨y, hy⟩ : ∃ y, xs[n]? = some y := by
    have := (List.getElem?_eq_some_iff.mp hn).1
    exact ⟨_, List.getElem?_eq_getElem (by rw [t0.len]; exact this)⟩
  refine ⟨l, xs, (n : Nat), y, rfl, tr_int x2, .inl (.inl e0), atI_nat hy, ?_⟩
  obtain ⟨g0, g, g1, eg, tg, _⟩ := t0.split n hy hn
  have sub : ∀ a ∈ g, a ∈ l :: f0 := fun a m => List.mem_cons_of_mem _ (by rw [eg]; simp [m])
  refine fn y S2 H2 g I2 ((a1.trans a2).weak fun h => by rw [h]; rfl) tg ?_ fun a m => ?_
  · have := (List.nodup_cons.mp nd).2
    rw [eg] at this
    exact (List.nodup_append.mp (List.nodup_append.mp this).2.1).1
  · obtain ⟨z1, z2, z3, z4⟩ := n1 a (sub a m)
    obtain ⟨u, eu, _⟩ := tp.dom a (sub a m)
    exact ⟨a2.notS eu z1, z2, fun z => z3 (a2.w a z), z4⟩
theorem EVP.fr (h : EVP c B e sl p (.ls ds) sl1) : EV c B e sl p (.fr (.lst ds)) sl1 := by
  obtain ⟨r, hr, hs⟩ := h
  refine ⟨r, hr, fun S H σ I Q q => hs S H σ I Q fun v S' H' fp I' a x nd n => ?_⟩
  obtain ⟨l, xs, rfl, rfl, e, tx⟩ := trp_ls x
  obtain ⟨z1, z2, z3, z4⟩ := n l (by simp)
  exact q _ S' H' I' a ⟨l, rfl, z1, z2, ⟨xs, e, tx⟩, z3⟩ fun l' e' => by cases e'; exact z4
theorem EVP.st (h : EVP c B e sl p (.st d) sl1) : EV c B e sl p (.st d) sl1 := by
  obtain ⟨r, hr, hs⟩ := h
  exact ⟨r, hr, fun S H σ I Q q => hs S H σ I Q fun v S' H' fp I' a x nd n => q _ S' H' I' a (trp_st x).2 trivial⟩
/-- a def that gives a new list, as a tree -/
theorem evp_of_fr (h : EV c B e sl p (.fr (.lst ds)) sl1) : EVP c B e sl p (.ls ds) sl1 := evp_fr h
theorem slot_t {K : PySem.W.Frag} {S H : Hp} {v : V} {f : List Addr} (h : TrP K S H f v t) (nd : f.Nodup) (n : ∀ a ∈ f, S a = none ∧ B.H0 a = none) : SlOk K B S H (some v) (t.sl f) ∧ ∀ a, FpS (t.sl f) (some v) a → a ∈ f := by
  cases t with
  | st d => exact ⟨⟨v, rfl, (trp_st h).2⟩, fun a z => absurd z fpS_val⟩
  | ls ds =>
    obtain ⟨l, xs, rfl, rfl, e, tx⟩ := trp_ls h
    exact ⟨⟨l, rfl, (n l (by simp)).1, ⟨xs, e, tx⟩, (n l (by simp)).2⟩, fun a z => by cases fpS_own.mp z; simp⟩
  | lst ts => exact ⟨⟨v, rfl, h, nd, n⟩, fun a z => fpS_prv.mp z⟩
  | tup ts => exact ⟨⟨v, rfl, h, nd, n⟩, fun a z => fpS_prv.mp z⟩
  | dct ts => exact ⟨⟨v, rfl, h, nd, n⟩, fun a z => fpS_prv.mp z⟩
  | dcs ts => exact ⟨⟨v, rfl, h, nd, n⟩, fun a z => fpS_prv.mp z⟩
theorem go_setG (i : Nat) {x : Str} (h : EVG c B e sl p t sl1) (h2 : ∀ fp, GO c B rest (sl1.set i (t.sl fp)) R) (hi : (sl1[i]?).isSome = true := by rfl) (hN : c.N[i]? = some x := by rfl) (nd : c.N.Nodup := by assumption) (hx : c.sc.names.lookup x = some .local ∨ c.sc.names.lookup x = some .cell := by first | exact .inl rfl | exact .inr rfl)
    (hsw : ∀ X, InCx c X → swapsWith e (some (.Name x p1)) pos.line X.env = pure false := by intro _ _; rfl) : GO c B (.Assign [.Name x p1] e pos :: rest) sl R := by
  obtain ⟨r, ge, hs⟩ := h
  refine ⟨tSeq (tAsg r (gName i)) (rB c rest), fun X hX => pss_cons (ps_set (by rw [hX.hN]; exact nd) (by rw [hX.hN]; exact hN) (hX.loc hx).1 (ge X hX) (hsw X hX) (hX.loc hx).2) (ps_rB hX), fun S H σ I D q => ?_⟩
  refine hs S H σ I _ fun v S1 H1 fp I1 a1 x1 nd1 n => ?_
  obtain ⟨ok, sub⟩ := slot_t (B := B) x1 nd1 fun b m => ⟨(n b m).1, (n b m).2.1⟩
  exact (h2 fp).rr S1 H1 _ (I1.put (i := i) _ ok (fun b m => (n b (sub b m)).2.2.1) hi) D (q.up a1.s)
/-- the items of a tuple or a list -/
inductive Seq2 : PTr → List PTr → Prop
  | tup {ts : List PTr} : Seq2 (.tup ts) ts
  | lst {ts : List PTr} : Seq2 (.lst ts) ts
/-- slots filled one after the other -/
def putAll (sl : List Sl) : List (Nat × PTr × List Addr) → List Sl
  | [] => sl
  | (j, t, f) :: r => putAll (sl.set j (t.sl f)) r
/-- the names of a target -/
inductive Tgs (c : CxD) : List Expr → List Nat → Prop
  | nil : Tgs c [] []
  | cons {x : Str} {px : Pos} {es : List Expr} {j : Nat} {js : List Nat} (hN : c.N[j]? = some x) (hx : c.sc.names.lookup x = some .local ∨ c.sc.names.lookup x = some .cell) (r : Tgs c es js) : Tgs c (.Name x px :: es) (j :: js)

def gNames : List Nat → TGs
  | [] => gNil
  | j :: r => gCons (gName j) (gNames r)
theorem Tgs.pgs {X : Cx} (hX : InCx c X) (nd : c.N.Nodup) : ∀ {es : List Expr} {js : List Nat}, Tgs c es js → PGs X es (gNames js)
  | _, _, .nil => pgs_nil
  | _, _, .cons (px := px) hN hx r => pgs_cons (pg_name (pos := px) (by rw [hX.hN]; exact nd) (by rw [hX.hN]; exact hN) (hX.loc hx).1 (hX.loc hx).2) (r.pgs hX nd) rfl
theorem unp_sem {K : PySem.W.Frag} {S H : Hp} {Q : L2.St → Hp → Prop} : ∀ {ts : List PTr} {js : List Nat} {sl : List Sl} {σ : L2.St} {f : List Addr} {xs : List V}, Stt K B S H σ sl → TrPs K S H f xs ts → f.Nodup → (∀ a ∈ f, S a = none ∧ B.H0 a = none ∧ ¬ OwnAt σ sl a) → js.length = ts.length → (∀ j ∈ js, j < sl.length) →
    (∀ (fs : List (List Addr)) (σ' : L2.St), fs.length = ts.length → Stt K B S H σ' (putAll sl (js.zip (ts.zip fs))) → Q σ' H) → gNames js xs σ H Q
  | [], js, sl, σ, f, xs, I, tp, nd, n, hl, hj, q => by
    cases tp
    cases js with
    | nil => exact ⟨rfl, q [] σ rfl I⟩
    | cons j js => cases hl
  | t :: ts, js, sl, σ, f, xs, I, tp, nd, n, hl, hj, q => by
    cases js with
    | nil => cases hl
    | cons j js =>
      cases tp with
      | @cons v vs _ _ f1 f2 h1 h2 =>
        obtain ⟨d1, d2, d3⟩ := List.nodup_append.mp nd
        obtain ⟨ok, sub⟩ := slot_t (B := B) h1 d1 fun b m => ⟨(n b (by simp [m])).1, (n b (by simp [m])).2.1⟩
        have I1 := I.put (i := j) _ ok (fun b m => (n b (by simp [sub b m])).2.2) (by rw [List.getElem?_eq_getElem (hj j (by simp))]; rfl)
        refine ⟨v, vs, rfl, unp_sem I1 h2 d2 (fun a m => ⟨(n a (by simp [m])).1, (n a (by simp [m])).2.1, fun z => ?_⟩) (by simpa using hl) (fun j' m => by rw [List.length_set]; exact hj j' (by simp [m])) fun fs σ' hf I' => ?_⟩
        · rcases ownAt_set z with z | z
          · exact (n a (by simp [m])).2.2 z
          · exact d3 a (sub a z) a m rfl
        · exact q (f1 :: fs) σ' (by simp [hf]) I'
/-- names = a tree that is given up -/
theorem go_unp {t0 : PTr} {pt : Pos} {kt : Nat} (js : List Nat) (h : EVG c B e sl p t0 sl1) (hq : Seq2 t0 ts) (hT : Tgs c es js) (hjl : js.length = ts.length) (hj : ∀ j ∈ js, j < sl1.length) (h2 : ∀ fs : List (List Addr), fs.length = ts.length → GO c B rest (putAll sl1 (js.zip (ts.zip fs))) R) (nd : c.N.Nodup := by assumption)
    (hs : ∀ env, swapsWithSole [.Tuple es kt pt] e pos.line env = pure false := by intro _; rfl) (hw : ∀ X, InCx c X → swappedStores [.Tuple es kt pt] e X.env = pure none := by intro _ _; rfl) (ht : ∀ env, (assignEach [.Tuple es kt pt] env).map (·.2) = [assign (.Tuple es kt pt) env] := by intro _; rfl)
    (hn : ∀ env, (assignEach es env).length = ts.length := by intro _; rfl) (hst : ∀ env, (assignEach es env).findIdx? (·.1) = none := by intro _; rfl) : GO c B (.Assign [.Tuple es kt pt] e pos :: rest) sl R := by
  obtain ⟨r, ge, se⟩ := h
  have fin : ∀ {S H : Hp} {σ : L2.St} {D : Ends} {S1 H1 : Hp} {f : List Addr} {xs : List V}, EndOk c B S D R → Stt c.K B S1 H1 σ sl1 → Adv σ sl S H sl1 S1 H1 p → TrPs c.K S1 H1 f xs ts → f.Nodup → (∀ a ∈ f, S1 a = none ∧ B.H0 a = none ∧ ¬ OwnAt σ sl1 a) → gNames js xs σ H1 fun σ2 H2 => rB c rest D σ2 H2 := fun {S H σ D S1 H1 f xs} q I1 a1 tp nd1 n => by
    refine unp_sem I1 tp nd1 n hjl hj fun fs σ' hf I' => ?_
    exact (h2 fs hf).rr S1 H1 σ' I' D (q.up a1.s)
  cases hq with
  | tup =>
    refine ⟨tSeq (tAsg r (gTup c.K ts.length (gNames js))) (rB c rest), fun X hX => pss_cons (ps_asg (ge X hX) (by have := pg_tup (X := X) (k := kt) (pos := pt) hX.calm (hT.pgs hX nd) (hn _) (hst _); rw [hX.hK] at this; exact this) (hs _) (hw X hX) (ht _)) (ps_rB hX), fun S H σ I D q => ?_⟩
    refine se S H σ I _ fun v S1 H1 f I1 a1 tp nd1 n1 => ?_
    obtain ⟨l, xs, f0, rfl, rfl, e0, t0⟩ := trp_tup tp
    exact ⟨l, xs, rfl, .inl (.inl e0), t0.len, fin q I1 a1 t0 (List.nodup_cons.mp nd1).2 fun a m => ⟨(n1 a (by simp [m])).1, (n1 a (by simp [m])).2.1, (n1 a (by simp [m])).2.2.1⟩⟩
  | lst =>
    refine ⟨tSeq (tAsg r (gUnl c.K ts.length (gNames js))) (rB c rest), fun X hX => pss_cons (ps_asg (ge X hX) (by have := pg_unl (X := X) (k := kt) (pos := pt) hX.calm (hT.pgs hX nd) (hn _) (hst _); rw [hX.hK] at this; exact this) (hs _) (hw X hX) (ht _)) (ps_rB hX), fun S H σ I D q => ?_⟩
    refine se S H σ I _ fun v S1 H1 f I1 a1 tp nd1 n1 => ?_
    obtain ⟨l, xs, f0, rfl, rfl, e0, t0⟩ := trp_lst tp
    exact ⟨l, xs, rfl, .inl (.inl e0), t0.len, fin q I1 a1 t0 (List.nodup_cons.mp nd1).2 fun a m => ⟨(n1 a (by simp [m])).1, (n1 a (by simp [m])).2.1, (n1 a (by simp [m])).2.2.1⟩⟩
theorem go_unpG2 {t0 : PTr} {pt px py : Pos} {x y : Str} {kt : Nat} (j1 j2 : Nat) (h : EVG c B e sl p t0 sl1) (h2 : ∀ f1 f2, GO c B rest ((sl1.set j1 (t1.sl f1)).set j2 (t2.sl f2)) R) (hq : Seq2 t0 [t1, t2] := by first | exact .tup | exact .lst) (hN : c.N[j1]? = some x := by rfl) (hN2 : c.N[j2]? = some y := by rfl) (hj1 : j1 < sl1.length := by exact Nat.le_of_ble_eq_true rfl) (hj2 : j2 < sl1.length := by exact Nat.le_of_ble_eq_true rfl)
    (hx : c.sc.names.lookup x = some .local ∨ c.sc.names.lookup x = some .cell := by first | exact .inl rfl | exact .inr rfl) (hy : c.sc.names.lookup y = some .local ∨ c.sc.names.lookup y = some .cell := by first | exact .inl rfl | exact .inr rfl) (nd : c.N.Nodup := by assumption)
    (hs : ∀ env, swapsWithSole [.Tuple [.Name x px, .Name y py] kt pt] e pos.line env = pure false := by intro _; rfl) (hw : ∀ X, InCx c X → swappedStores [.Tuple [.Name x px, .Name y py] kt pt] e X.env = pure none := by intro _ _; rfl) (ht : ∀ env, (assignEach [.Tuple [.Name x px, .Name y py] kt pt] env).map (·.2) = [assign (.Tuple [.Name x px, .Name y py] kt pt) env] := by intro _; rfl)
    (hn : ∀ env, (assignEach [.Name x px, .Name y py] env).length = 2 := by intro _; rfl) (hst : ∀ env, (assignEach [.Name x px, .Name y py] env).findIdx? (·.1) = none := by intro _; rfl) : GO c B (.Assign [.Tuple [.Name x px, .Name y py] kt pt] e pos :: rest) sl R :=
  go_unp [j1, j2] h hq (.cons hN hx (.cons hN2 hy .nil)) rfl (fun j m => by
    rcases List.mem_cons.mp m with rfl | m
    · exact hj1
    · rw [List.mem_singleton.mp m]; exact hj2) (fun fs hf => match fs, hf with
    | [f1, f2], _ => h2 f1 f2) nd hs hw ht hn hst
theorem go_unpG3 {t0 : PTr} {pt px py pz : Pos} {x y z : Str} {kt : Nat} (j1 j2 j3 : Nat) (h : EVG c B e sl p t0 sl1) (h2 : ∀ f1 f2 f3, GO c B rest (((sl1.set j1 (t1.sl f1)).set j2 (t2.sl f2)).set j3 (t3.sl f3)) R) (hq : Seq2 t0 [t1, t2, t3] := by first | exact .tup | exact .lst) (hN : c.N[j1]? = some x := by rfl) (hN2 : c.N[j2]? = some y := by rfl) (hN3 : c.N[j3]? = some z := by rfl) (hj1 : j1 < sl1.length := by exact Nat.le_of_ble_eq_true rfl) (hj2 : j2 < sl1.length := by exact Nat.le_of_ble_eq_true rfl) (hj3 : j3 < sl1.length := by exact Nat.le_of_ble_eq_true rfl)
    (hx : c.sc.names.lookup x = some .local ∨ c.sc.names.lookup x = some .cell := by first | exact .inl rfl | exact .inr rfl) (hy : c.sc.names.lookup y = some .local ∨ c.sc.names.lookup y = some .cell := by first | exact .inl rfl | exact .inr rfl) (hz : c.sc.names.lookup z = some .local ∨ c.sc.names.lookup z = some .cell := by first | exact .inl rfl | exact .inr rfl) (nd : c.N.Nodup := by assumption)
    (hs : ∀ env, swapsWithSole [.Tuple [.Name x px, .Name y py, .Name z pz] kt pt] e pos.line env = pure false := by intro _; rfl) (hw : ∀ X, InCx c X → swappedStores [.Tuple [.Name x px, .Name y py, .Name z pz] kt pt] e X.env = pure none := by intro _ _; rfl) (ht : ∀ env, (assignEach [.Tuple [.Name x px, .Name y py, .Name z pz] kt pt] env).map (·.2) = [assign (.Tuple [.Name x px, .Name y py, .Name z pz] kt pt) env] := by intro _; rfl)
    (hn : ∀ env, (assignEach [.Name x px, .Name y py, .Name z pz] env).length = 3 := by intro _; rfl) (hst : ∀ env, (assignEach [.Name x px, .Name y py, .Name z pz] env).findIdx? (·.1) = none := by intro _; rfl) : GO c B (.Assign [.Tuple [.Name x px, .Name y py, .Name z pz] kt pt] e pos :: rest) sl R :=
  go_unp [j1, j2, j3] h hq (.cons hN hx (.cons hN2 hy (.cons hN3 hz .nil))) rfl (fun j m => by
    rcases List.mem_cons.mp m with rfl | m
    · exact hj1
    · rcases List.mem_cons.mp m with rfl | m
      · exact hj2
      · rw [List.mem_singleton.mp m]; exact hj3) (fun fs hf => match fs, hf with
    | [f1, f2, f3], _ => h2 f1 f2 f3) nd hs hw ht hn hst
end
end Mw

/-! NwZI: defs as values. -/
namespace Mw
open PySem PySem.Spec L2
variable [Tb]
/-- the def at f keeps sp -/
structure FnV (P : Program) (w : World) (K : PySem.W.Frag) (mg : Str → Option Value) (base : Heap) (lv : Nat) (f : Addr) (sp : Sp) : Prop where
  ex : ∃ fd ps, FnG P w K mg base lv f fd ps sp ∧ PySem.W.keepIn K (.ref f) = true ∧ Binds K fd ps []
section
variable {P : Program} {w : World} {K : PySem.W.Frag} {mg : Str → Option Value} {base : Heap} {lv lv' : Nat} {f : Addr} {sp sp' : Sp} {x : Str} {st : Stmt} {ps : List Str}
theorem DefOk.fnv (h : DefOk P w K mg base x st ps lv sp) : ∃ f, mg x = some (.ref f) ∧ FnV P w K mg base lv f sp := by
  obtain ⟨f, fd, hm, hF, hb, G⟩ := h.ex
  exact ⟨f, hm, fd, ps, G, hF.kp, hb⟩
theorem FnV.mono (h : FnV P w K mg base lv f sp) (hl : lv ≤ lv') : FnV P w K mg base lv' f sp := by
  obtain ⟨fd, ps, G, a, b⟩ := h.ex
  exact ⟨fd, ps, G.mono hl, a, b⟩
theorem FnV.imp (h : FnV P w K mg base lv f sp) (hi : ∀ vs H Q E, sp' vs H Q E → sp vs H Q E) : FnV P w K mg base lv f sp' := by
  obtain ⟨fd, ps, G, a, b⟩ := h.ex
  exact ⟨fd, ps, G.imp hi, a, b⟩
theorem prm_rel {R R' : Rel} (h : ∀ cs u cs', R' cs u cs' → R cs u cs') : ∀ vs H Q E, Prm K mg R' vs H Q E → Prm K mg R vs H Q E := fun vs H Q E ⟨S, ls, cs, u, cs', hr, r⟩ => ⟨S, ls, cs, u, cs', h _ _ _ hr, r⟩
/-- it ends so at these arguments -/
def EndAt (cs : List Sl) (u : Out) : Rel := fun cs1 u1 cs1' => cs1 = cs ∧ u1 = u ∧ cs1' = cs
theorem FnV.at {α : Type} {pre : α → Prop} {args : α → List Sl} {out : α → Out} (h : FnV P w K mg base lv f (Prm K mg (PureX pre args out))) (v : α) (hp : pre v) {cs : List Sl} {u : Out} (h1 : args v = cs := by rfl) (h2 : out v = u := by rfl) : FnV P w K mg base lv f (Prm K mg (EndAt cs u)) :=
  h.imp (prm_rel fun cs1 u1 cs1' ⟨e1, e2, e3⟩ => ⟨v, hp, by rw [e1, h1], by rw [e2, h2], by rw [e3, e1]⟩)
theorem tr_raw {H : Hp} {v : V} {a : Addr} (h : Tr K H v (rawD a)) : v = .ref a := by
  unfold rawD at h
  generalize e : (PyData.dict [(.none, .none), (.none, .int (a : Nat))]) = d at h
  cases h with
  | rw b =>
    have e := congrArg (fun d => match d with | PyData.dict [_, (_, .int i)] => i | _ => 0) e
    have e : ((a : Nat) : Int) = ((b : Nat) : Int) := e
    rw [show a = b from Int.ofNat.inj e]
  | dct h t =>
    cases t with
    | nil => cases e
    | @cons k v kvs d ds h t =>
      have e := congrArg (fun d => match d with | PyData.dict ((k, _) :: _) => k | _ => .none) e
      have e : PyData.none = keyD k := e
      cases k <;> cases e
  | exc0 h => cases e
  | exc1 h hx t => cases e
  | _ => cases e
variable {X : Cx} {W : WX} {p pos : Pos} {e : Expr} {es : List Expr} {t : TA} {fd : FuncData} {i : Nat}
theorem pe_callGV (F : FnG X.prog X.w X.K X.mg X.base lv f fd ps sp) (hr : Room lv X.A) (hgu : X.A.guards = some []) (tk : Takes X W) (hN : X.N[i]? = some x) (hv : Vis X.env.scope x) (hk : PySem.W.keepIn X.K (.ref f) = true) (hb : Binds X.K fd ps [])
    (ha : PA X (e :: es) t) (hdb : (x == ("__debug__" : Str)) = false) (hcd : (x == ("__classdict__" : Str)) = false) (he : starEach (e :: es) X.env = (false, eval e X.env) :: starEach es X.env) (hpl : (backTo pos (starEach es X.env)).any (·.1) = false) :
    PE X (.Call (.Name x p) (e :: es) [] pos) (fun σ H Q => σ[i]? = some (some (.ref f)) ∧ t σ H fun vs H1 => sp vs H1 Q fun cls d H' => W cls d σ H') :=
  ⟨fun pins s σ H Q I ⟨hs, h⟩ => by
    have nm := (pe_var (pos := p) hN hv hdb hcd).run pins s σ H (fun v H1 => v = .ref f ∧ H1 = H) I ⟨.ref f, hs, rfl, rfl⟩
    refine wpAny_Call_Name_kw (thn nm fun u s1 hu => ?_)
    obtain ⟨v, H1, I1, r1, rfl, rfl⟩ := hu
    cases r1
    refine PySem.W.callWith_K (h₀ := X.base) I1.ok.mod.kin hk (thn (ha.run pos pins s1 σ _ _ I1 h) fun us s2 hs2 => ?_) he hpl
    obtain ⟨vs, H2, I2, r, q⟩ := hs2
    have hl : (us ++ []).length = ps.length := by rw [List.append_nil, ← r.length]; exact F.len _ _ _ _ q
    have hb' := hb s2 us I2.kIn hl
    rw [List.append_nil] at hb'
    exact ⟨I2.kIn, wp_runG F hr hgu tk I2 hb' r q⟩⟩
end
section
variable {c : CxD} {B : Bs} {e : Expr} {es : List Expr} {sl sl1 : List Sl} {p : Bool} {ks : List Kd} {k : Kd} {pos p1 : Pos} {z : Exn} {x : Str} {f : Addr} {cs : List Sl} {R : Rel} {lv : Nat}
theorem ev_fnD (hm : c.mg x = some (.ref f)) (hg : c.sc.names.lookup x = some .globalImplicit := by rfl) (h1 : (x == ("__debug__" : Str)) = false := by decide) : EV c B (.Name x pos) sl true (.st (rawD f)) sl := by
  obtain ⟨t, g, s⟩ := ev_gref (B := B) (sl := sl) (pos := pos) hm hg h1
  refine ⟨t, g, fun S H σ I Q q => s S H σ I Q fun v S1 H1 I1 a1 x1 _ => q v S1 H1 I1 a1 ?_ trivial⟩
  have e : v = .ref f := x1
  rw [e]
  exact .rw f
theorem xv_callV (i : Nat) (F : FnV c.P c.w c.K c.mg c.base lv f (Prm c.K c.mg R)) (ha : AV c B (e :: es) sl p ks sl1) (hcs : ArgP ks cs) (hR : R cs (.exn z) cs) (hs0 : sl[i]? = some (.val (rawD f)) := by rfl) (hN : c.N[i]? = some x := by rfl) (hv : Vis c.sc x := by first | exact .inl rfl | exact .inr (.inl rfl) | exact .inr (.inr rfl)) (hlv : lv ≤ c.lv := by exact Nat.le_of_ble_eq_true rfl)
    (h1 : (x == ("__debug__" : Str)) = false := by decide) (h2 : (x == ("__classdict__" : Str)) = false := by decide) (he : ∀ env, starEach (e :: es) env = (false, eval e env) :: starEach es env := by intro env; rfl) (hpl : ∀ env, (backTo pos (starEach es env)).any (·.1) = false := by intro env; rfl) : XV c B (.Call (.Name x p1) (e :: es) [] pos) sl p z sl1 := by
  obtain ⟨fd, ps, G, hk, hb⟩ := F.ex
  obtain ⟨r, hr, hs⟩ := ha
  refine ⟨fun σ H Q => σ[i]? = some (some (.ref f)) ∧ r σ H fun vs H1 => Prm c.K c.mg R vs H1 Q fun cls d H' => c.W cls d σ H', fun X hX => pe_callGV (by rw [hX.hP, hX.hw, hX.hK, hX.hm, hX.hb]; exact G) (hX.rm.mono hlv) hX.gu hX.tk (by rw [hX.hN]; exact hN) (hX.v x hv) (by rw [hX.hK]; exact hk) (by rw [hX.hK]; exact hb) (hr X hX) h1 h2 (he _) (hpl _), fun S H σ I w Q => ⟨?_, ?_⟩⟩
  · obtain ⟨v, hv, tv⟩ := I.val hs0
    rw [hv, tr_raw tv]
  · refine hs S H σ I _ fun vs S1 H1 I1 a1 x1 => ⟨S1, [], cs, .exn z, cs, hR, hcs.stt I1 x1, fun cls dx S' H' J hv => ?_⟩
    obtain ⟨I2, a2⟩ := back0 I1 J
    exact w S' H' cls dx ((a1.trans a2).weak fun h => by rw [h]; rfl) I2 hv
theorem ev_callV (i : Nat) (F : FnV c.P c.w c.K c.mg c.base lv f (Prm c.K c.mg R)) (ha : AV c B (e :: es) sl p ks sl1) (hcs : ArgP ks cs) (hR : R cs (.ret k) cs) (hk0 : okK k = true := by rfl) (hs0 : sl[i]? = some (.val (rawD f)) := by rfl) (hN : c.N[i]? = some x := by rfl) (hv : Vis c.sc x := by first | exact .inl rfl | exact .inr (.inl rfl) | exact .inr (.inr rfl)) (hlv : lv ≤ c.lv := by exact Nat.le_of_ble_eq_true rfl)
    (h1 : (x == ("__debug__" : Str)) = false := by decide) (h2 : (x == ("__classdict__" : Str)) = false := by decide) (he : ∀ env, starEach (e :: es) env = (false, eval e env) :: starEach es env := by intro env; rfl) (hpl : ∀ env, (backTo pos (starEach es env)).any (·.1) = false := by intro env; rfl) : EV c B (.Call (.Name x p1) (e :: es) [] pos) sl p k sl1 := by
  obtain ⟨fd, ps, G, hk, hb⟩ := F.ex
  obtain ⟨r, hr, hs⟩ := ha
  refine ⟨fun σ H Q => σ[i]? = some (some (.ref f)) ∧ r σ H fun vs H1 => Prm c.K c.mg R vs H1 Q fun cls d H' => c.W cls d σ H', fun X hX => pe_callGV (by rw [hX.hP, hX.hw, hX.hK, hX.hm, hX.hb]; exact G) (hX.rm.mono hlv) hX.gu hX.tk (by rw [hX.hN]; exact hN) (hX.v x hv) (by rw [hX.hK]; exact hk) (by rw [hX.hK]; exact hb) (hr X hX) h1 h2 (he _) (hpl _), fun S H σ I Q fn => ⟨?_, ?_⟩⟩
  · obtain ⟨v, hv, tv⟩ := I.val hs0
    rw [hv, tr_raw tv]
  · refine hs S H σ I _ fun vs S1 H1 I1 a1 x1 => ⟨S1, [], cs, .ret k, cs, hR, hcs.stt I1 x1, fun v S' H' J hv => ?_⟩
    obtain ⟨I2, a2⟩ := back0 I1 J
    obtain ⟨kd, fr⟩ := kd_back I1 (okK_h hk0) (fun _ h => h) hv
    exact fn v S' H' I2 ((a1.trans a2).weak fun h => by rw [h]; rfl) kd (fr.back a1)
end
end Mw

/-! NwZJ: a, b, c = x, y, z with trees; comprehensions over numbers. -/
namespace Mw
open PySem PySem.Spec L2
variable [Tb]
section
variable {c : CxD} {B : Bs} {e a b d3 iter elt : Expr} {rest : List Stmt} {sl sl1 : List Sl} {p z : Bool} {pos px py pz pt p1 p2 p3 : Pos} {R : Rt} {t1 t2 t3 : PTr} {xs : List Int} {scope : Scope}
theorem go_parG3 (i j l : Nat) {x y z : Str} {kt k2' : Nat} {pt2 : Pos} (ha : AVG c B [a, b, d3] sl p [t1, t2, t3] sl1) (h2 : ∀ f1 f2 f3, GO c B rest (((sl1.set i (t1.sl f1)).set j (t2.sl f2)).set l (t3.sl f3)) R) (hi : i < sl1.length := by exact Nat.le_of_ble_eq_true rfl) (hj : j < sl1.length := by exact Nat.le_of_ble_eq_true rfl) (hl : l < sl1.length := by exact Nat.le_of_ble_eq_true rfl) (hij : i ≠ j := by decide) (hil : i ≠ l := by decide) (hjl : j ≠ l := by decide)
    (hN : c.N[i]? = some x := by rfl) (hN2 : c.N[j]? = some y := by rfl) (hN3 : c.N[l]? = some z := by rfl) (nd : c.N.Nodup := by assumption) (hx : c.sc.names.lookup x = some .local := by rfl) (hy : c.sc.names.lookup y = some .local := by rfl) (hz : c.sc.names.lookup z = some .local := by rfl) (hxy : (x == y) = false := by decide) (hxz : (x == z) = false := by decide) (hyz : (y == z) = false := by decide) (hln : (py.line == px.line) = true := by rfl) (hln2 : (pz.line == px.line) = true := by rfl)
    (has : ∀ v m, a ≠ .Starred v m := by intro _ _ h; cases h) (hbs : ∀ v m, b ≠ .Starred v m := by intro _ _ h; cases h) (hds : ∀ v m, d3 ≠ .Starred v m := by intro _ _ h; cases h) (hf1 : [a, b, d3].all (foldedForSure 8) = false := by rfl) (hf2 : [a, b, d3].all (constantsAlone 8) = false := by rfl)
    (hsw : ∀ env, swapsWithSole [.Tuple [.Name x px, .Name y py, .Name z pz] kt pt] (.Tuple [a, b, d3] k2' pt2) pos.line env = pure false := by intro _; rfl) :
    GO c B (.Assign [.Tuple [.Name x px, .Name y py, .Name z pz] kt pt] (.Tuple [a, b, d3] k2' pt2) pos :: rest) sl R := by
  obtain ⟨ta, ga, sa⟩ := ha
  refine go_cons (M := fun s => ∃ f1 f2 f3, s = ((sl1.set i (t1.sl f1)).set j (t2.sl f2)).set l (t3.sl f3)) ⟨tPar3 i j l ta, fun X hX => ps_par3 hX.calm (by rw [hX.hN]; exact nd) (by rw [hX.hN]; exact hN) (by rw [hX.hN]; exact hN2) (by rw [hX.hN]; exact hN3) hij hil hjl (hX.l x hx) (hX.l y hy) (hX.l z hz) (ga X hX) (sw3 hX.kind (hX.l x hx) (hX.l y hy) (hX.l z hz) hxy hxz hyz hln hln2 has hbs hds hf1 hf2) (hsw _), fun S H σ I D q => ?_⟩ (by rintro s ⟨f1, f2, f3, rfl⟩; exact h2 f1 f2 f3)
  refine sa S H σ I _ fun vs S1 H1 fp I1 a1 tp nd1 n => ?_
  have := unp_sem (Q := fun σ' H' => D.nx σ' H') (js := [i, j, l]) I1 tp nd1 (fun a m => ⟨(n a m).1, (n a m).2.1, (n a m).2.2.1⟩) rfl (by
    intro m hm
    simp only [List.mem_cons, List.not_mem_nil, or_false] at hm
    rcases hm with rfl | rfl | rfl <;> assumption) (fun fs σ' hf I' => by
      match fs, hf with
      | [f1, f2, f3], _ => exact q.nx S1 H1 σ' _ a1.s I' ⟨f1, f2, f3, rfl⟩)
  obtain ⟨u, r1, e1, v, r2, e2, w, r3, e3, e4, h⟩ := this
  subst e1 e2 e3 e4
  exact ⟨u, v, w, rfl, h⟩
theorem go_parG2 (i j : Nat) {x y : Str} {kt k2' : Nat} {pt2 : Pos} (ha : AVG c B [a, b] sl p [t1, t2] sl1) (h2 : ∀ f1 f2, GO c B rest ((sl1.set i (t1.sl f1)).set j (t2.sl f2)) R) (hi : i < sl1.length := by exact Nat.le_of_ble_eq_true rfl) (hj : j < sl1.length := by exact Nat.le_of_ble_eq_true rfl) (hij : i ≠ j := by decide)
    (hN : c.N[i]? = some x := by rfl) (hN2 : c.N[j]? = some y := by rfl) (nd : c.N.Nodup := by assumption) (hx : c.sc.names.lookup x = some .local := by rfl) (hy : c.sc.names.lookup y = some .local := by rfl) (hxy : (x == y) = false := by decide) (hln : (py.line == px.line) = true := by rfl)
    (has : ∀ v m, a ≠ .Starred v m := by intro _ _ h; cases h) (hbs : ∀ v m, b ≠ .Starred v m := by intro _ _ h; cases h) (hf1 : [a, b].all (foldedForSure 8) = false := by rfl) (hf2 : [a, b].all (constantsAlone 8) = false := by rfl)
    (hsw : ∀ env, swapsWithSole [.Tuple [.Name x px, .Name y py] kt pt] (.Tuple [a, b] k2' pt2) pos.line env = pure false := by intro _; rfl) :
    GO c B (.Assign [.Tuple [.Name x px, .Name y py] kt pt] (.Tuple [a, b] k2' pt2) pos :: rest) sl R := by
  obtain ⟨ta, ga, sa⟩ := ha
  refine go_cons (M := fun s => ∃ f1 f2, s = (sl1.set i (t1.sl f1)).set j (t2.sl f2)) ⟨tPar i j ta, fun X hX => ps_par hX.calm (by rw [hX.hN]; exact nd) (by rw [hX.hN]; exact hN) (by rw [hX.hN]; exact hN2) hij (hX.l x hx) (hX.l y hy) (ga X hX) (sw2 hX.kind (hX.l x hx) (hX.l y hy) hxy hln has hbs hf1 hf2) (hsw _), fun S H σ I D q => ?_⟩ (by rintro s ⟨f1, f2, rfl⟩; exact h2 f1 f2)
  refine sa S H σ I _ fun vs S1 H1 fp I1 a1 tp nd1 n => ?_
  have := unp_sem (Q := fun σ' H' => D.nx σ' H') (js := [i, j]) I1 tp nd1 (fun a m => ⟨(n a m).1, (n a m).2.1, (n a m).2.2.1⟩) rfl (by
    intro m hm
    simp only [List.mem_cons, List.not_mem_nil, or_false] at hm
    rcases hm with rfl | rfl <;> assumption) (fun fs σ' hf I' => by
      match fs, hf with
      | [f1, f2], _ => exact q.nx S1 H1 σ' _ a1.s I' ⟨f1, f2, rfl⟩)
  obtain ⟨u, r1, e1, v, r2, e2, e4, h⟩ := this
  subst e1 e2 e4
  exact ⟨u, v, rfl, h⟩
/-- [f(x) for x in xs] -/
theorem evN_map {nm : Str} {tp : Pos} (j : Nat) (g : Int → Int) (hi : EI c B (.Name nm tp) iter sl p (nums xs) z sl1)
    (hs : ∀ (i : Nat) (x : Int), xs[i]? = some x → EV (c.blk scope) B elt ((sl1.set j .no).set j (.val (.int x))) true (.st (.int (g x))) ((sl1.set j .no).set j (.val (.int x))))
    (hl : xs.length ≤ 1000000) (hg : GT (c.blk scope) B (.Name nm tp) (.none) [j] (sl1.set j .no) ((sl1.set j .no).set j (.val .none)) := by exact gt_name _) (hg2 : ∀ d, GT (c.blk scope) B (.Name nm tp) d [j] (sl1.set j .no) ((sl1.set j .no).set j (.val d)) := by intro d; exact gt_name _)
    (ok : blkC c.N c.sc scope [(nm, j)] = true := by (try dsimp only [CxD.blk]); decide +kernel) (nd : c.N.Nodup := by assumption) (hf : ∀ env x, foldedSetIterable iter env x = pure x := by intro _ _; rfl) : EV c B (.ListComp elt [⟨.Name nm tp, iter, [], 0⟩] scope pos) sl p (.fr (.lst (nums (xs.map g)))) sl1 :=
  (evN_comp j (fun x => some (g x)) hi (fun i x hx => ⟨true, tvs_nil, fun _ => ⟨_, rfl, hs i x hx⟩, fun h => nomatch h⟩) hl hg hg2 ok nd hf).to (by rw [show xs.filterMap (fun x => some (g x)) = xs.map g from by rw [← List.filterMap_eq_map]; rfl])
/-- name = [f(x) for x in xs] -/
theorem go_setMN {nm y : Str} {tp : Pos} (i j : Nat) (g : Int → Int) (hi : EI c B (.Name nm tp) iter sl p (nums xs) z sl1)
    (hs : ∀ (i : Nat) (x : Int), xs[i]? = some x → EV (c.blk scope) B elt ((sl1.set j .no).set j (.val (.int x))) true (.st (.int (g x))) ((sl1.set j .no).set j (.val (.int x))))
    (hl : xs.length ≤ 1000000) (h2 : GO c B rest (sl1.set i (.own (.lst (nums (xs.map g))))) R) (hg2 : ∀ d, GT (c.blk scope) B (.Name nm tp) d [j] (sl1.set j .no) ((sl1.set j .no).set j (.val d)) := by intro d; exact gt_name _)
    (ok : blkC c.N c.sc scope [(nm, j)] = true := by (try dsimp only [CxD.blk]); decide +kernel) (hii : (sl1[i]?).isSome = true := by rfl) (hN : c.N[i]? = some y := by rfl) (nd : c.N.Nodup := by assumption) (hx : c.sc.names.lookup y = some .local := by rfl) (hk : (scope.names.any fun (n, k) => n == y && (k == .local || k == .cell)) = false := by decide +kernel) (hln : (p1.line == pos.line) = true := by rfl)
    (hf : ∀ env x, foldedSetIterable iter env x = pure x := by intro _ _; rfl) : GO c B (.Assign [.Name y p1] (.ListComp elt [⟨.Name nm tp, iter, [], 0⟩] scope pos) p2 :: rest) sl R :=
  go_setCN i j (fun x => some (g x)) hi (fun i x hx => ⟨true, tvs_nil, fun _ => ⟨_, rfl, hs i x hx⟩, fun h => nomatch h⟩) hl (by rw [show xs.filterMap (fun x => some (g x)) = xs.map g from by rw [← List.filterMap_eq_map]; rfl]; exact h2) hg2 ok hii hN nd hx hk hln hf
/-- name = [x for x in xs if t] -/
theorem go_setFN {nm y : Str} {tp : Pos} {test : Expr} (i j : Nat) (g : Int → Bool) (hi : EI c B (.Name nm tp) iter sl p (nums xs) z sl1)
    (hs : ∀ (i : Nat) (x : Int), xs[i]? = some x → TV (c.blk scope) B test ((sl1.set j .no).set j (.val (.int x))) true (g x) ((sl1.set j .no).set j (.val (.int x))))
    (hl : xs.length ≤ 1000000) (h2 : GO c B rest (sl1.set i (.own (.lst (nums (xs.filter g))))) R) (hj : (sl1[j]?).isSome = true := by rfl) (hNj : c.N[j]? = some nm := by rfl) (hv : Vis scope nm := by first | exact .inl rfl | exact .inr (.inl rfl) | exact .inr (.inr rfl)) (h1 : (nm == ("__debug__" : Str)) = false := by decide) (hcd : (nm == ("__classdict__" : Str)) = false := by decide) (hg2 : ∀ d, GT (c.blk scope) B (.Name nm tp) d [j] (sl1.set j .no) ((sl1.set j .no).set j (.val d)) := by intro d; exact gt_name _)
    (ok : blkC c.N c.sc scope [(nm, j)] = true := by (try dsimp only [CxD.blk]); decide +kernel) (hii : (sl1[i]?).isSome = true := by rfl) (hN : c.N[i]? = some y := by rfl) (nd : c.N.Nodup := by assumption) (hx : c.sc.names.lookup y = some .local := by rfl) (hk : (scope.names.any fun (n, k) => n == y && (k == .local || k == .cell)) = false := by decide +kernel) (hln : (p1.line == pos.line) = true := by rfl)
    (hf : ∀ env x, foldedSetIterable iter env x = pure x := by intro _ _; rfl) : GO c B (.Assign [.Name y p1] (.ListComp (.Name nm p3) [⟨.Name nm tp, iter, [test], 0⟩] scope pos) p2 :: rest) sl R :=
  go_setCN i j (fun x => if g x = true then some x else none) hi (fun i x hx => ⟨g x, tvs_one (hs i x hx), fun h => ⟨x, by rw [if_pos h], ev_val j (by
    rw [List.getElem?_set_self]
    rw [List.length_set]
    cases e : sl1[j]? with
    | none => rw [e] at hj; cases hj
    | some u => exact (List.getElem?_eq_some_iff.mp e).1) hNj hv h1 hcd⟩, fun h => by rw [if_neg (by rw [h]; decide)]⟩) hl (by rw [fm_filter]; exact h2) hg2 ok hii hN nd hx hk hln hf
end
end Mw

/-! NwZK: repr of data with dicts in it. -/
namespace Mw
open PySem PySem.Spec L2 PyProof.Rows
variable [Tb]
def nnK : PyData → Bool
  | .none => false
  | _ => true
mutual
/-- no thing by its address, no exception, at any depth -/
def noRaw : PyData → Bool
  | .none | .bool _ | .int _ | .str _ => true
  | .list xs | .tuple xs => noRawL xs
  | .dict kvs => noRawK kvs
def noRawL : List PyData → Bool
  | [] => true
  | x :: xs => noRaw x && noRawL xs
def noRawK : List (PyData × PyData) → Bool
  | [] => true
  | (k, v) :: r => nnK k && noRaw v && noRawK r
end
theorem noRawK_nn : ∀ {ds : List (PyData × PyData)}, noRawK ds = true → ∀ x ∈ ds, x.1 ≠ .none
  | [], _, x, hx, _ => nomatch hx
  | (k, v) :: r, h, x, hx, e => by
    have h : (nnK k && noRaw v && noRawK r) = true := h
    simp only [Bool.and_eq_true] at h
    rcases List.mem_cons.mp hx with rfl | hx
    · have e : k = .none := e
      rw [e] at h
      cases h.1.1
    · exact noRawK_nn h.2 x hx e
section
variable {X : Cx} {pins : List (Addr × Obj)} {σ : L2.St} {H : Hp} {s : Shared}
mutual
theorem Tr.readsD (I : Inv X pins σ H s) (hm : ∃ o es ep, s.heap.get? sysModules = some o ∧ o.data = .dict es ep) : ∀ {d : PyData} {v : V} {u : Value}, Tr X.K H v d → noRaw d = true → RelV v u → ∃ as, Reads s.heap u d as ∧ sysModules ∉ as
  | .none, _, _, h, _, r => by cases h; cases r; exact ⟨_, .none, by simp⟩
  | .bool b, _, _, h, _, r => by cases h; cases r; exact ⟨_, .bool b, by simp⟩
  | .int i, _, _, h, _, r => by cases h; obtain ⟨t, rfl⟩ := r; exact ⟨_, .int i t, by simp⟩
  | .str x, _, _, h, _, r => by cases h; obtain ⟨t, rfl⟩ := r; exact ⟨_, .str x t, by simp⟩
  | .list ds, _, _, h, hd, r => by
    cases h with
    | @lst a xs _ hs ha =>
      cases r
      obtain ⟨its, rv, ⟨o, n, ho, hc, _, hdt⟩, _⟩ := I.list hs
      obtain ⟨as, hr, hn⟩ := Trs.readsD I hm ha hd rv
      refine ⟨_, .list ho hc hdt hr, fun z => ?_⟩
      rcases List.mem_cons.mp z with z | z
      · obtain ⟨o2, es, ep, e1, e2⟩ := hm
        rw [z, ho] at e1
        cases e1
        rw [hdt] at e2
        cases e2
      · exact hn z
  | .tuple ds, _, _, h, hd, r => by
    cases h with
    | tup hs ha =>
      cases r
      obtain ⟨its, rv, ⟨o, ho, hc, n, hdt⟩, _⟩ := I.tuple hs
      obtain ⟨as, hr, hn⟩ := Trs.readsD I hm ha hd rv
      exact ⟨_, .tuple ho hc hdt hr, hn⟩
  | .dict ds, _, _, h, hd, r => by
    obtain ⟨a, kvs, rfl, hr, tk⟩ := tr_dct h (noRawK_nn hd)
    cases r
    obtain ⟨_, hne, vs, rel, o, es, ep, ho, hx, hdt, _, hp, _⟩ := dk_rd I.hok hr
    obtain ⟨as, bs, q1, q2, q3, q4⟩ := Trk.readsD I hm tk hd rel hp
    refine ⟨_, .dict ho hx.1 hdt q1 q2, fun z => ?_⟩
    rcases List.mem_append.mp z with z | z
    · rcases List.mem_cons.mp z with z | z
      · rw [z] at hne; simp at hne
      · exact q3 z
    · exact q4 z
theorem Trs.readsD (I : Inv X pins σ H s) (hm : ∃ o es ep, s.heap.get? sysModules = some o ∧ o.data = .dict es ep) : ∀ {ds : List PyData} {vs : List V} {us : List Value}, Trs X.K H vs ds → noRawL ds = true → Vals vs us → ∃ as, ReadsAll s.heap us ds as ∧ sysModules ∉ as
  | [], _, _, h, _, r => by cases h; cases r; exact ⟨_, .nil, by simp⟩
  | d :: ds, _, _, h, hd, r => by
    cases h with
    | cons h1 h2 =>
      cases r with
      | cons r1 r2 =>
        have hd2 : (noRaw d && noRawL ds) = true := hd
        obtain ⟨hd1, hd2⟩ := Bool.and_eq_true_iff.mp hd2
        obtain ⟨as, q1, n1⟩ := Tr.readsD I hm h1 hd1 r1
        obtain ⟨bs, q2, n2⟩ := Trs.readsD I hm h2 hd2 r2
        exact ⟨_, .cons q1 q2, by simp [n1, n2]⟩
theorem Trk.readsD (I : Inv X pins σ H s) (hm : ∃ o es ep, s.heap.get? sysModules = some o ∧ o.data = .dict es ep) : ∀ {ds : List (PyData × PyData)} {kvs : List (Key × V)} {vs : List (Key × Value)} {es : List DictEntry}, Trk X.K H kvs ds → noRawK ds = true → L2.KV kvs vs → Pairs (mixKind X.prog X.w) es vs →
    ∃ as bs, ReadsAll s.heap (es.map (·.key)) (ds.map (·.1)) as ∧ ReadsAll s.heap (es.map (·.val)) (ds.map (·.2)) bs ∧ sysModules ∉ as ∧ sysModules ∉ bs
  | [], _, _, _, h, _, r, p => by cases h; cases r; cases p; exact ⟨_, _, .nil, .nil, by simp, by simp⟩
  | (k0, d) :: ds, _, _, _, h, hd, r, p => by
    cases h with
    | @cons k v _ _ _ h1 h2 =>
      cases r with
      | @cons _ b _ _ r1 r2 =>
        obtain ⟨e1, rv⟩ := r1
        cases p with
        | @cons e _ _ _ p1 p2 p3 =>
          have hd2 : (nnK (keyD k) && noRaw d && noRawK ds) = true := hd
          simp only [Bool.and_eq_true] at hd2
          obtain ⟨as, q1, n1⟩ := Tr.readsD I hm h1 hd2.1.2 rv
          obtain ⟨cs, bs, q2, q3, n2, n3⟩ := Trk.readsD I hm h2 hd2.2 r2 p3
          have e1 : k = b.1 := e1
          have p1 : keyIs b.1 e.key = true := p1
          obtain ⟨ks, hk, nk⟩ : ∃ ks, Reads s.heap e.key (keyD k) ks ∧ sysModules ∉ ks := by
            rw [e1]
            rcases keyIs_shape p1 with ⟨i, t, e2, e3⟩ | ⟨x, t, e2, e3⟩
            · rw [e2, e3]; exact ⟨_, .int i t, by simp⟩
            · rw [e2, e3]; exact ⟨_, .str x t, by simp⟩
          have p2 : e.val = b.2 := p2
          exact ⟨ks ++ cs, as ++ bs, .cons hk q2, .cons (show Reads s.heap e.val d as by rw [p2]; exact q1) q3, by simp [nk, n2], by simp [n1, n3]⟩
end
end
/-- what repr is asked of -/
structure Rw (b n : Nat) (d : PyData) : Prop where
  sh : d.showable = true
  nr : noRaw d = true
  dp : d.depth ≤ b
  sz : d.shown.length ≤ n
mutual
theorem noRaw_of : ∀ d : PyData, d.hasDict = false → noRaw d = true
  | .none, _ => rfl
  | .bool _, _ => rfl
  | .int _, _ => rfl
  | .str _, _ => rfl
  | .list xs, h => noRawL_of xs (by simpa [PyData.hasDict] using h)
  | .tuple xs, h => noRawL_of xs (by simpa [PyData.hasDict] using h)
  | .dict _, h => by simp [PyData.hasDict] at h
theorem noRawL_of : ∀ ds : List PyData, PyData.hasDictAll ds = false → noRawL ds = true
  | [], _ => rfl
  | d :: r, h => by
    have h2 : d.hasDict = false ∧ PyData.hasDictAll r = false := by simpa [PyData.hasDictAll] using h
    show (noRaw d && noRawL r) = true
    rw [noRaw_of d h2.1, noRawL_of r h2.2]; rfl
end
theorem Rk.w {b n : Nat} {d : PyData} (h : Rk b n d) : Rw b n d := ⟨h.sh, noRaw_of d h.nd, h.dp, h.sz⟩
theorem Rw.mono {b n b' n' : Nat} {d : PyData} (h : Rw b n d) (hb : b ≤ b') (hn : n ≤ n') : Rw b' n' d := ⟨h.sh, h.nr, Nat.le_trans h.dp hb, Nat.le_trans h.sz hn⟩
theorem all_rw {b n : Nat} : ∀ {ds : List PyData}, (∀ d ∈ ds, Rw b n d) → PyData.showableAll ds = true ∧ noRawL ds = true ∧ PyData.depthAll ds ≤ b ∧ ∀ t ∈ PyData.shownAll ds, t.length ≤ n
  | [], _ => ⟨rfl, rfl, Nat.zero_le _, fun _ h => nomatch h⟩
  | d :: r, h => by
    obtain ⟨a1, a2, a3, a4⟩ := all_rw fun x hx => h x (List.mem_cons_of_mem _ hx)
    have hd := h d List.mem_cons_self
    refine ⟨?_, ?_, ?_, fun t ht => ?_⟩
    · show (d.showable && PyData.showableAll r) = true
      rw [hd.sh, a1]; rfl
    · show (noRaw d && noRawL r) = true
      rw [hd.nr, a2]; rfl
    · show max d.depth (PyData.depthAll r) ≤ b
      exact Nat.max_le.mpr ⟨hd.dp, a3⟩
    · rcases List.mem_cons.mp (show t ∈ d.shown :: PyData.shownAll r from ht) with rfl | ht
      · exact hd.sz
      · exact a4 t ht
theorem Rw.listN {b n m : Nat} {ds : List PyData} (h : ∀ d ∈ ds, Rw b n d) (hm : ds.length ≤ m) : Rw (b + 1) (m * (n + 2) + 3) (.list ds) := by
  obtain ⟨a1, a2, a3, a4⟩ := all_rw h
  refine ⟨a1, a2, Nat.succ_le_succ a3, ?_⟩
  have h1 := piled_le _ a4
  have h2 := listText_le (PyData.shownAll ds)
  rw [shownAll_len] at h1
  have h3 := Nat.mul_le_mul_right (n + 2) hm
  show (listText (PyData.shownAll ds)).length ≤ _
  omega
theorem Rw.tupleN {b n m : Nat} {ds : List PyData} (h : ∀ d ∈ ds, Rw b n d) (hm : ds.length ≤ m) : Rw (b + 1) (m * (n + 2) + 3) (.tuple ds) := by
  obtain ⟨a1, a2, a3, a4⟩ := all_rw h
  refine ⟨a1, a2, Nat.succ_le_succ a3, ?_⟩
  have h1 := piled_le _ a4
  have h2 := tupleText_le (PyData.shownAll ds)
  rw [shownAll_len] at h1
  have h3 := Nat.mul_le_mul_right (n + 2) hm
  show (tupleText (PyData.shownAll ds)).length ≤ _
  omega
theorem Rw.dict0 : Rw 1 2 (.dict []) := ⟨rfl, rfl, by decide, by decide +kernel⟩
section
variable {c : CxD} {B : Bs} {e : Expr} {sl sl1 : List Sl} {p : Bool} {k : Kd} {pos p1 : Pos} {d : PyData}
theorem ev_reprD {n : Nat} (ha : EV c B e sl p k sl1) (hm : c.mg "repr" = none) (hd : Rw 50 n d) (hk1 : AsD k d := by first | exact .st | exact .ls | exact .fr | exact .nw) (hn : n ≤ 16777216 := by omega) (hg : c.sc.names.lookup ("repr" : Str) = some .globalImplicit := by rfl) (he : ∀ env, starEach [e] env = (false, eval e env) :: starEach [] env := by intro env; rfl) :
    EV c B (.Call (.Name "repr" p1) [e] [] pos) sl p (.st (.str d.shown)) sl1 := by
  have hsz : d.shown.length ≤ sizeLine := by rw [sizeLine_eq]; exact Nat.le_trans hd.sz hn
  refine ev_call1B (k1 := k) (id := "repr") (r := fun vs H Q => ∃ v, vs = [v] ∧ (∃ φ, H sysModules = some (.ext φ) ∧ IsSm φ) ∧ Tr c.K H v d ∧ Q (.str d.shown) H) (fun X hX => ?_) (fun B σ sl S H v I hk Q q => ⟨v, rfl, I.smH, hk1.tr I hk, q.st I (.str _)⟩) ha hm (by decide +kernel) hg he
  intro pins s σ H vs us Q I r h
  obtain ⟨v, rfl, ⟨φ, hφ, hs⟩, t, q⟩ := h
  rw [← hX.hK] at t
  obtain ⟨u, rfl, ru⟩ : ∃ u, us = [u] ∧ RelV v u := by
    cases r with
    | cons r1 r2 => cases r2; exact ⟨_, rfl, r1⟩
  have hmod := hs _ (I.hok _ _ hφ).1
  obtain ⟨as, rd, nas⟩ := Tr.readsD I hmod t hd.nr ru
  have fin : ∀ tk tk', EP X pins σ Q (.str d.shown tk) { s with toks := tk' } := fun tk tk' => ⟨.str d.shown, H, I.tok _, ⟨_, rfl⟩, q⟩
  have ref : ∀ a, u = Value.ref a → wpAny (model X.prog X.w) X.A (call (.builtin "repr") [u]) (EP X pins σ Q) X.xe s := fun a ea => by
    subst ea
    refine repr_of_reads' rd hd.sh (fun _ => nas) hX.gu ?_ (fun _ _ h => h) (fun h' u tk hk => ?_) hsz
    · have := hX.rm.units
      have := hd.dp
      omega
    · exact ⟨.str d.shown, H, I.kept hk, ⟨_, rfl⟩, q⟩
  cases rd with
  | none => exact PySem.P.repr_of_none (fin _ _)
  | bool b => exact PySem.P.repr_of_bool (fin _ _)
  | int i t => exact PySem.P.repr_of_int (of_decide_eq_true hd.sh) (fin _ _)
  | str x t =>
    exact PySem.P.repr_of_str (fin _ _) hsz
  | list h1 h2 h3 h4 => exact ref _ rfl
  | tuple h1 h2 h3 h4 => exact ref _ rfl
  | dict h1 h2 h3 h4 h5 => exact ref _ rfl
end
end Mw

/-! NwZL: comprehensions with two for. -/
namespace Mw
open PySem PySem.Spec L2
variable [Tb]
/-- heaps that only grew -/
structure Gw (S H S' H' : Hp) : Prop where
  s : Same S S'
  h : Sam H H'
  sh : Same S' H'
  n : ∀ a o, S' a = some o → S a = none → H a = none
  t : LamX.Tabs Tb.T H'
  nt : NoT S'
section
variable {K : PySem.W.Frag} {B : Bs} {S S' S'' S1 H H' H'' H1 : Hp} {σ σ2 : L2.St} {sl sl' sl2 : List Sl} {D : Addr} {L : List PyData} {d : PyData} {y : V}
theorem Gw.trans (a : Gw S H S' H') (b : Gw S' H' S'' H'') : Gw S H S'' H'' := ⟨a.s.trans b.s, a.h.trans b.h, b.sh, fun q o e1 e2 => by
  cases e : S' q with
  | some o' => exact a.n q o' e e2
  | none => exact a.h.free (b.n q o e1 e), b.t, b.nt⟩
theorem Stt.gw (I : Stt K B S H σ sl) (g : Gw S H S' H') : Stt K B S' H' σ sl := I.growS g.s g.h g.sh g.n g.t g.nt
theorem Adv.gw {p : Bool} (a : Adv σ sl S H sl' S' H' p) (hp : p = true) (I : Stt K B S' H' σ sl') : Gw S H S' H' := ⟨a.s, a.h hp, I.sh, a.n, I.tabs, I.snt⟩
/-- a list at D that is being made -/
structure Acc (K : PySem.W.Frag) (B : Bs) (S1 H1 : Hp) (D : Addr) (L : List PyData) (σ : L2.St) (sl : List Sl) (S H : Hp) : Prop where
  g : Gw S1 H1 S H
  i : Stt K B S H σ sl
  d : ∃ acc, H D = some (.lst acc) ∧ Trs K S acc L
  nd : S D = none
theorem Acc.go (x : Acc K B S1 H1 D L σ sl S H) (g : Gw S H S' H') : Acc K B S1 H1 D L σ sl S' H' := by
  obtain ⟨acc, h, t⟩ := x.d
  refine ⟨x.g.trans g, x.i.gw g, ⟨acc, g.h.st _ _ h (fun ps z => nomatch z), t.mono g.s⟩, ?_⟩
  cases e : S' D with
  | none => rfl
  | some o =>
    have := g.n D o e x.nd
    rw [h] at this
    cases this
theorem Acc.app (x : Acc K B S1 H1 D L σ sl S H) (na : ¬ OwnAt σ sl D) (n0 : B.H0 D = none) (hD : H1 D = none) (t : Tr K S y d) : ∃ acc, H D = some (.lst acc) ∧ acc.length = L.length ∧ Acc K B S1 H1 D (L ++ [d]) σ sl S (upd H D (.lst (acc ++ [y]))) := by
  obtain ⟨acc, h, ts⟩ := x.d
  have J := x.i.side (u := .lst (acc ++ [y])) x.nd n0 na h lst_soft
  exact ⟨acc, h, ts.len, ⟨x.g.s, ⟨fun a o e hnt => by rw [upd_ne (ne_of_none e hD)]; exact x.g.h.st _ _ e hnt, fun a ps e => by rw [upd_ne (ne_of_none e hD)]; exact x.g.h.tb _ _ e⟩, J.sh, x.g.n, J.tabs, J.snt⟩, J, ⟨_, upd_same, ts.app (.one t)⟩, x.nd⟩
end
section
variable {c : CxD} {B : Bs} {tg elt iter tg1 iter1 : Expr} {ifs1 : List Expr} {sl sl1 : List Sl} {p z : Bool} {pos p1 p2 : Pos} {ds : List PyData} {scope : Scope} {own : List (Str × Nat)} {R : Rt} {rest : List Stmt}
theorem comp2_core (vs1 : List Nat) (es : PyData → List PyData) (f : PyData → PyData → Option PyData) (hi : EI c B tg iter sl p ds z sl1)
    (hs : ∀ (i : Nat) (d : PyData), ds[i]? = some d → ∃ js s2, GT (c.blk scope) B tg d js (wipeS sl1 (own.map (·.2))) s2 ∧ (∀ x ∈ js, x ∈ own.map (·.2)) ∧ plainAt s2 (own.map (·.2)) = true ∧ wipeS s2 (own.map (·.2)) = wipeS sl1 (own.map (·.2)) ∧ EI (c.blk scope) B tg1 iter1 s2 true (es d) true s2 ∧
      ∀ (j : Nat) (e : PyData), (es d)[j]? = some e → ∃ js1 s3 b, GT (c.blk scope) B tg1 e js1 (wipeS s2 vs1) s3 ∧ (∀ x ∈ js1, x ∈ vs1) ∧ TVs (c.blk scope) B ifs1 s3 b ∧ (b = true → ∃ d', f d e = some d' ∧ EV (c.blk scope) B elt s3 true (.st d') s3) ∧ (b = false → f d e = none))
    (hl : (ds.flatMap fun d => (es d).filterMap (f d)).length ≤ 1000000) : ∃ wi g tt wi1 g1 tt1, (∀ X, InCx c X → PI X tg iter wi) ∧ (∀ X, InCx (c.blk scope) X → PG X tg g) ∧ (∀ X, InCx (c.blk scope) X → PTs X [] tt) ∧ (∀ X, InCx (c.blk scope) X → PI X tg1 iter1 wi1) ∧ (∀ X, InCx (c.blk scope) X → PG X tg1 g1) ∧ (∀ X, InCx (c.blk scope) X → PTs X ifs1 tt1) ∧
      SemE c.K B (tLc2 wi g tt wi1 g1 tt1 (rE (c.blk scope) elt) (own.map (·.2)) vs1) sl p (.fr (.lst (ds.flatMap fun d => (es d).filterMap (f d)))) sl1 := by
  obtain ⟨wi, gi, si⟩ := hi
  let c' := c.blk scope
  let vs := own.map (·.2)
  let g : TG := fun v σ H Q => ∃ g : TG, (∀ X, InCx c' X → PG X tg g) ∧ g v σ H Q
  let g1 : TG := fun v σ H Q => ∃ g : TG, (∀ X, InCx c' X → PG X tg1 g) ∧ g v σ H Q
  let w1 : TI := fun σ H R => ∃ w : TI, (∀ X, InCx c' X → PI X tg1 iter1 w) ∧ w σ H R
  let tt1 : TT := fun σ H Q => ∃ t, (∀ X, InCx c' X → PTs X ifs1 t) ∧ t σ H Q
  have gP : ∀ X, InCx c' X → PG X tg g := fun X hX => ⟨fun pins s σ H v u Q I r ⟨g, hg, h⟩ => (hg X hX).run pins s σ H v u Q I r h⟩
  have gP1 : ∀ X, InCx c' X → PG X tg1 g1 := fun X hX => ⟨fun pins s σ H v u Q I r ⟨g, hg, h⟩ => (hg X hX).run pins s σ H v u Q I r h⟩
  have wP1 : ∀ X, InCx c' X → PI X tg1 iter1 w1 := fun X hX => ⟨fun pins s σ H R I ⟨w, hw, h⟩ => (hw X hX).run pins s σ H R I h⟩
  have tP1 : ∀ X, InCx c' X → PTs X ifs1 tt1 := fun X hX => ⟨fun pins s σ H Q I ⟨t, ht, h⟩ => (ht X hX).run pins s σ H Q I h⟩
  let F : PyData → List PyData := fun d => (es d).filterMap (f d)
  refine ⟨wi, g, tYes, w1, g1, tt1, gi, gP, fun X _ => pts_nil, wP1, gP1, tP1, fun S H σ I Q fn => si S H σ I _ fun It S1 H1 I1 a1 it => ?_⟩
  intro D nD
  obtain ⟨nS1, n01, naD⟩ := I1.notIn nD
  have up1 : ∀ i < ds.length, ∀ d, ds[i]? = some d → ((ds.take i).flatMap F ++ F d).length ≤ 1000000 := fun i hi d hd => by
    refine Nat.le_trans ?_ hl
    have : (ds.take i).flatMap F ++ F d = (ds.take (i + 1)).flatMap F := by
      rw [List.take_add_one, hd, List.flatMap_append]
      show _ = _ ++ [d].flatMap F
      rw [List.flatMap_cons, List.flatMap_nil, List.append_nil]
    rw [this]
    have e : ds.flatMap F = (ds.take (i + 1)).flatMap F ++ (ds.drop (i + 1)).flatMap F := by rw [← List.flatMap_append, List.take_append_drop]
    show _ ≤ (ds.flatMap F).length
    rw [e, List.length_append]
    exact Nat.le_add_right _ _
  refine ⟨fun i m H => m = ds.length - i ∧ i ≤ ds.length ∧ ∃ S2, Acc c.K B S1 H1 D ((ds.take i).flatMap F) σ sl1 S2 H,
    ⟨ds.length, by simp, Nat.zero_le _, S1, ⟨.refl _, same_sam (same_new nD), (I1.laid nD).sh, fun a o h1 h2 => (by rw [h1] at h2; cases h2), (I1.laid nD).tabs, I1.snt⟩, I1.laid nD, ⟨[], upd_same, .nil⟩, nS1⟩, ?_⟩
  rintro i m H2 ⟨rfl, hil, S2, A2⟩
  obtain ⟨it1, it2⟩ := it S2 H2 A2.g.s A2.i.sh (by
    cases z with
    | true => rw [if_pos rfl]; exact same_sam (A2.g.s.trans A2.i.sh)
    | false => rw [if_neg Bool.false_ne_true]; exact A2.g.h) i
  by_cases hlt : i < ds.length
  · have hget := List.getElem?_eq_getElem hlt
    obtain ⟨go, yl⟩ := it1 _ hget
    refine .inr ⟨go, fun H' => ∃ S2, Acc c.K B S1 H1 D ((ds.take (i + 1)).flatMap F) σ sl1 S2 H', fun H' h => ⟨ds.length - (i + 1), by omega, rfl, hlt, h⟩, fun x H3 y => ?_⟩
    obtain ⟨S3, b1, b2, b3, b4, bn, tx⟩ := yl x H3 y
    have A3 := A2.go ⟨b1, same_sam b3, b2, b4, A2.i.tabs.ext b3, bn A2.i.snt⟩
    obtain ⟨js, s2, ⟨g0, gp0, gs0⟩, hj, hp2, hw2, ⟨w0, wp0, ws0⟩, hin⟩ := hs i _ hget
    refine ⟨g0, gp0, gs0 S3 H3 _ x (A3.i.wipe _) tx _ fun σ2 I2 l2 k2 => ?_⟩
    have hws : L2.wipe σ2 vs = L2.wipe σ vs := wipe_same hj l2 k2
    have hσ : ∀ j, j ∉ vs → σ2[j]? = σ[j]? := fun j hjv => by
      have := congrArg (·[j]?) hws
      simp only [wipe_get, if_neg hjv] at this
      exact this
    have na2 : ¬ OwnAt σ2 s2 D := fun h => naD (ownAt_like hw2 hp2 hσ h)
    refine ⟨hws, ?_⟩
    refine ⟨w0, wp0, ws0 S3 H3 σ2 I2 _ fun J4 S4 H4 I4 a4 it4 => ?_⟩
    have A4 := A3.go (a4.gw rfl I4)
    have ec : (ds.take (i + 1)).flatMap F = (ds.take i).flatMap F ++ F ds[i] := by
      rw [List.take_add_one, hget, List.flatMap_append]
      show _ ++ [ds[i]].flatMap F = _
      rw [List.flatMap_cons, List.flatMap_nil, List.append_nil]
    have lim := up1 i hlt _ hget
    refine ⟨fun j k H => k = (es ds[i]).length - j ∧ j ≤ (es ds[i]).length ∧ ∃ S5, Acc c.K B S1 H1 D ((ds.take i).flatMap F ++ ((es ds[i]).take j).filterMap (f ds[i])) σ sl1 S5 H ∧ Stt c.K B S5 H σ2 s2 ∧ Same S4 S5,
      ⟨(es ds[i]).length, by simp, Nat.zero_le _, S4, by rw [List.take_zero, List.filterMap_nil, List.append_nil]; exact A4, I4, .refl _⟩, ?_⟩
    rintro j k H5 ⟨rfl, hjl, S5, A5, I5, s45⟩
    obtain ⟨it5, it6⟩ := it4 S5 H5 s45 A5.i.sh (by rw [if_pos rfl]; exact same_sam (s45.trans A5.i.sh)) j
    by_cases hjt : j < (es ds[i]).length
    · have hge := List.getElem?_eq_getElem hjt
      obtain ⟨go5, yl5⟩ := it5 _ hge
      refine .inr ⟨go5, fun H' => ∃ S5, Acc c.K B S1 H1 D ((ds.take i).flatMap F ++ ((es ds[i]).take (j + 1)).filterMap (f ds[i])) σ sl1 S5 H' ∧ Stt c.K B S5 H' σ2 s2 ∧ Same S4 S5, fun H' h => ⟨(es ds[i]).length - (j + 1), by omega, rfl, hjt, h⟩, fun x6 H6 y6 => ?_⟩
      obtain ⟨S6, q1, q2, q3, q4, qn, tx6⟩ := yl5 x6 H6 y6
      have g6 : Gw S5 H5 S6 H6 := ⟨q1, same_sam q3, q2, q4, A5.i.tabs.ext q3, qn A5.i.snt⟩
      have A6 := A5.go g6
      have I6 := I5.gw g6
      obtain ⟨js1, s3, b, ⟨h0, hp0, hs0⟩, hj1, ⟨t0, tp0, ts0⟩, hy, hn⟩ := hin j _ hge
      refine ⟨h0, hp0, hs0 S6 H6 _ x6 (I6.wipe _) tx6 _ fun σ3 I7 l3 k3 => ⟨wipe_same hj1 l3 k3, t0, tp0, ?_⟩⟩
      refine ts0 S6 H6 σ3 I7 _ fun S7 H7 I8 a8 => ?_
      have g8 := a8.gw rfl I8
      have cat : ((es ds[i]).take (j + 1)).filterMap (f ds[i]) = ((es ds[i]).take j).filterMap (f ds[i]) ++ (f ds[i] (es ds[i])[j]).toList := by
        rw [List.take_succ, hge, List.filterMap_append]
        show _ ++ List.filterMap (f ds[i]) [(es ds[i])[j]] = _
        cases e : f ds[i] (es ds[i])[j] with
        | none => rw [List.filterMap_cons_none e]; rfl
        | some y => rw [List.filterMap_cons_some e]; rfl
      cases b with
      | true =>
        rw [if_pos rfl]
        obtain ⟨d', hd', ev⟩ := hy rfl
        refine ev.rr S7 H7 σ3 I8 _ fun y S9 H9 I9 a9 x9 _ => ?_
        have g9 := g8.trans (a9.gw rfl I9)
        have A9 := A6.go g9
        have I9' := I6.gw g9
        obtain ⟨acc, e1, e2, A10⟩ := A9.app naD n01 nD x9
        refine ⟨acc, e1, ?_, S9, ?_, I9'.side A9.nd n01 na2 e1 lst_soft, s45.trans (q1.trans g9.s)⟩
        · have r1 : ((ds.take i).flatMap F ++ ((es ds[i]).take j).filterMap (f ds[i])).length ≤ 1000000 := by
            refine Nat.le_trans ?_ lim
            rw [List.length_append, List.length_append]
            have : (F ds[i]).length = (((es ds[i]).take j).filterMap (f ds[i])).length + (((es ds[i]).drop j).filterMap (f ds[i])).length := by
              rw [← List.length_append, ← List.filterMap_append, List.take_append_drop]
            omega
          rw [e2, sizeLine_eq]; omega
        · rw [cat, hd', ← List.append_assoc]; exact A10
      | false =>
        rw [if_neg Bool.false_ne_true]
        refine ⟨S7, ?_, I6.gw g8, s45.trans (q1.trans g8.s)⟩
        rw [cat, hn rfl]
        show Acc _ _ _ _ _ (_ ++ (_ ++ [])) _ _ _ _
        rw [List.append_nil]
        exact A6.go g8
    · have ej : j = (es ds[i]).length := by omega
      subst ej
      refine .inl ⟨it6 (Nat.le_refl _), S5, ?_⟩
      rw [List.take_length] at A5
      rw [ec]
      exact A5
  · have e1 : i = ds.length := by omega
    subst e1
    refine .inl ⟨it2 (Nat.le_refl _), ?_⟩
    obtain ⟨acc, hD, tacc⟩ := A2.d
    rw [List.take_length] at tacc
    refine fn _ S2 H2 A2.i ((a1.trans (q := true) ⟨A2.g.s, A2.g.n, fun a o e => A2.g.h.dom e, fun a o e hnt _ => A2.g.h.st _ _ e hnt, fun _ => A2.g.h, fun _ h => h⟩).weak fun h => by rw [h]; rfl) ⟨D, rfl, A2.nd, n01, ⟨acc, hD, tacc⟩, naD⟩ fun l e => ?_
    cases e
    cases e2 : H D with
    | none => rfl
    | some o =>
      obtain ⟨o', e3⟩ := a1.d D o e2
      rw [nD] at e3
      cases e3
theorem ev_comp2 (own : List (Str × Nat)) (vs1 : List Nat) (es : PyData → List PyData) (f : PyData → PyData → Option PyData) (hi : EI c B tg iter sl p ds z sl1)
    (hs : ∀ (i : Nat) (d : PyData), ds[i]? = some d → ∃ js s2, GT (c.blk scope) B tg d js (wipeS sl1 (own.map (·.2))) s2 ∧ (∀ x ∈ js, x ∈ own.map (·.2)) ∧ plainAt s2 (own.map (·.2)) = true ∧ wipeS s2 (own.map (·.2)) = wipeS sl1 (own.map (·.2)) ∧ EI (c.blk scope) B tg1 iter1 s2 true (es d) true s2 ∧
      ∀ (j : Nat) (e : PyData), (es d)[j]? = some e → ∃ js1 s3 b, GT (c.blk scope) B tg1 e js1 (wipeS s2 vs1) s3 ∧ (∀ x ∈ js1, x ∈ vs1) ∧ TVs (c.blk scope) B ifs1 s3 b ∧ (b = true → ∃ d', f d e = some d' ∧ EV (c.blk scope) B elt s3 true (.st d') s3) ∧ (b = false → f d e = none))
    (hl : (ds.flatMap fun d => (es d).filterMap (f d)).length ≤ 1000000) (hv : ∀ i ∈ vs1, i ∈ own.map (·.2) := by decide) (ok : blkC c.N c.sc scope own = true := by (try dsimp only [CxD.blk]); decide +kernel) (nd : c.N.Nodup := by assumption) (hf : ∀ env x, foldedSetIterable iter env x = pure x := by intro _ _; rfl) (hf1 : ∀ env x, foldedSetIterable iter1 env x = pure x := by intro _ _; rfl) :
    EV c B (.ListComp elt [⟨tg, iter, [], 0⟩, ⟨tg1, iter1, ifs1, 0⟩] scope pos) sl p (.fr (.lst (ds.flatMap fun d => (es d).filterMap (f d)))) sl1 := by
  obtain ⟨wi, g, tt, wi1, g1, tt1, gi, gP, tP, wP1, gP1, tP1, sem⟩ := comp2_core vs1 es f hi hs hl
  have sk : scope.kind = .function := (blkOk_by ok).kind
  exact ⟨_, fun X hX => pe_lc2 hX.calm (by rw [hX.hN]; exact nd) (gi X hX) (blk_in hX ok) hv (fun s H C cl fp => gP _ (hX.block sk)) (fun s H C cl fp => tP _ (hX.block sk)) (fun s H C cl fp => wP1 _ (hX.block sk)) (fun s H C cl fp => gP1 _ (hX.block sk)) (fun s H C cl fp => tP1 _ (hX.block sk)) (fun s H C cl fp => pe_rE (hX.block sk)) (hf _) hf1, sem⟩
theorem go_setC2 (i : Nat) {y : Str} (own : List (Str × Nat)) (vs1 : List Nat) (es : PyData → List PyData) (f : PyData → PyData → Option PyData) {out : List PyData} (hi : EI c B tg iter sl p ds z sl1)
    (hs : ∀ (i : Nat) (d : PyData), ds[i]? = some d → ∃ js s2, GT (c.blk scope) B tg d js (wipeS sl1 (own.map (·.2))) s2 ∧ (∀ x ∈ js, x ∈ own.map (·.2)) ∧ plainAt s2 (own.map (·.2)) = true ∧ wipeS s2 (own.map (·.2)) = wipeS sl1 (own.map (·.2)) ∧ EI (c.blk scope) B tg1 iter1 s2 true (es d) true s2 ∧
      ∀ (j : Nat) (e : PyData), (es d)[j]? = some e → ∃ js1 s3 b, GT (c.blk scope) B tg1 e js1 (wipeS s2 vs1) s3 ∧ (∀ x ∈ js1, x ∈ vs1) ∧ TVs (c.blk scope) B ifs1 s3 b ∧ (b = true → ∃ d', f d e = some d' ∧ EV (c.blk scope) B elt s3 true (.st d') s3) ∧ (b = false → f d e = none))
    (he : (ds.flatMap fun d => (es d).filterMap (f d)) = out) (hl : out.length ≤ 1000000) (h2 : GO c B rest (sl1.set i (.own (.lst out))) R) (hv : ∀ i ∈ vs1, i ∈ own.map (·.2) := by decide) (ok : blkC c.N c.sc scope own = true := by (try dsimp only [CxD.blk]); decide +kernel) (hii : (sl1[i]?).isSome = true := by rfl) (hN : c.N[i]? = some y := by rfl) (nd : c.N.Nodup := by assumption) (hx : c.sc.names.lookup y = some .local := by rfl) (hk : (scope.names.any fun (n, k) => n == y && (k == .local || k == .cell)) = false := by decide +kernel) (hln : (p1.line == pos.line) = true := by rfl) (hf : ∀ env x, foldedSetIterable iter env x = pure x := by intro _ _; rfl) (hf1 : ∀ env x, foldedSetIterable iter1 env x = pure x := by intro _ _; rfl) :
    GO c B (.Assign [.Name y p1] (.ListComp elt [⟨tg, iter, [], 0⟩, ⟨tg1, iter1, ifs1, 0⟩] scope pos) p2 :: rest) sl R := by
  refine go_to ?_ h2
  obtain ⟨wi, g, tt, wi1, g1, tt1, gi, gP, tP, wP1, gP1, tP1, sem⟩ := comp2_core vs1 es f hi hs (by rw [he]; exact hl)
  have sk : scope.kind = .function := (blkOk_by ok).kind
  refine ⟨_, fun X hX => ps_setLc2 hX.calm (by rw [hX.hN]; exact nd) (by rw [hX.hN]; exact hN) (hX.l _ hx) (sw_true hX.kind (hX.l _ hx) hln hk) (gi X hX) (blk_in hX ok) hv (fun s H C cl fp => gP _ (hX.block sk)) (fun s H C cl fp => tP _ (hX.block sk)) (fun s H C cl fp => wP1 _ (hX.block sk)) (fun s H C cl fp => gP1 _ (hX.block sk)) (fun s H C cl fp => tP1 _ (hX.block sk)) (fun s H C cl fp => pe_rE (hX.block sk)) (hf _) hf1, fun S H σ I D q => ?_⟩
  exact sem S H σ I _ fun v S1 H1 I1 a1 x1 _ => q.nx S1 H1 _ _ a1.s (I1.set x1 hii) (by subst he; rfl)
end
end Mw

/-! NwZM: a, b = x, y where a name is a cell; sorted(set(xs)). -/
namespace Mw
open PySem PySem.Spec L2 PyProof.Rows
theorem sw_cell2 {c : CxD} {x y : Str} {px py pt pt2 : Pos} {kt k2 : Nat} {a b : Expr} (h : c.sc.names.lookup x = some .cell ∨ c.sc.names.lookup y = some .cell) : ∀ X, InCx c X → swappedStores [.Tuple [.Name x px, .Name y py] kt pt] (.Tuple [a, b] k2 pt2) X.env = pure none := fun X hX => by
  unfold swappedStores
  dsimp only
  split
  · rfl
  split
  · rfl
  have hl : ([Expr.Name x px, .Name y py].filterMap fun e => match e with
      | .Name id pos => if (X.env.kindOf id == some .local && pos.line == (([Expr.Name x px, .Name y py].head?.map (·.pos.line)).getD 0)) = true then some id else none
      | _ => none).length < 2 := by
    rcases h with h | h
    · have k : X.env.kindOf x = some .cell := (hX.fn x h).1
      rw [List.filterMap_cons_none (by show (if (X.env.kindOf x == _ && _) = true then _ else _) = _; rw [k]; rfl)]
      exact Nat.lt_succ_of_le (List.length_filterMap_le ..)
    · have k : X.env.kindOf y = some .cell := (hX.fn y h).1
      have e : ([Expr.Name y py].filterMap fun e => match e with
        | .Name id pos => if (X.env.kindOf id == some .local && pos.line == (([Expr.Name x px, .Name y py].head?.map (·.pos.line)).getD 0)) = true then some id else none
        | _ => none) = [] := by
        rw [List.filterMap_cons_none (by show (if (X.env.kindOf y == _ && _) = true then _ else _) = _; rw [k]; rfl)]; rfl
      rw [List.filterMap_cons]
      split
      · rw [e]; decide
      · rw [e]; simp
  split
  · rfl
  · rename_i hn
    exact absurd (by simp only [Bool.or_eq_true, bne_iff_ne, ne_eq]; exact .inl (Nat.ne_of_lt hl)) hn
/-- an empty set, just made -/
def set0 (w : World) : Obj := { cls := .type "set", dict := none, data := .set #[] 0 (.fresh 0 0 (!w.params.followText "set-order")) }
section
variable {P : Program} {w : World} {A : Around} {E : Value → Shared → Prop} {s : Shared}
/-- what set(xs) does to a new set -/
theorem set_fill {L : Addr} {vs : Array Value} (xs : List Int) (hA : A.handled = none) (hL : s.heap.IsList L vs) (hv : IntsAre vs.toList xs) (hb : xs.length + 1 < scanBound) {S1 : Shared} (hS1 : S1 = { s with heap := s.heap.push (set0 w) }) {Q : Fin → Shared → Prop}
    (hQ : ∀ h' tk n, SetR w h' s.heap.objs.size (fun j => decide (j ∈ xs)) n → n ≤ xs.length → (∀ b o, s.heap.get? b = some o → h'.get? b = some o) → Q (.done (.ret .none)) { s with heap := h', toks := tk }) :
    wpAny (model P w) A (Builtin.«set.__init__» ⟨[.ref s.heap.objs.size, .ref L], []⟩) Q E S1 := by
  subst hS1
  have hsz : vs.size = xs.length := by rw [← Array.length_toList]; exact hv.length
  obtain ⟨⟨kls, dct, dat, slt⟩, g1, g2, ep, g3⟩ := hL
  cases g2; cases g3
  have g4 : (s.heap.push (set0 w)).get? L = some ⟨.type "list", dct, .seq vs ep, slt⟩ := Heap.get?_push_of_some _ g1
  have g5 : (s.heap.push (set0 w)).IsList L vs := ⟨_, g4, rfl, ep, rfl⟩
  have g6 : (s.heap.push (set0 w)).get? s.heap.objs.size = some (set0 w) := Heap.get?_push_size _ rfl
  have z0 : (s.heap.push (set0 w)).objs.size = s.heap.objs.size + 1 := Heap.size_push ..
  have g7 := Heap.lt_size g1
  have f1 := F.sub_list_set
  have f2 := F.sub_list_frozenset
  have f3 : (Value.type "list" == Value.type "dict") = false := rfl
  unfold Builtin.«set.__init__» noKeywords Builtin.Frozenset.updateFrom
  generalize hit : pyIter = it
  wp_walk
  subst hit
  refine wpAny_pyIter_list g5 (wpAny_bind (wpAny_runValue (set_update_ints ((Walks.list (by simp [hA]) (s.heap.push (set0 w)).objs.size L (by rw [z0]; exact Nat.ne_of_lt (Nat.lt_succ_of_lt g7)) vs).toS) s.heap.objs.size (by rw [z0]; simp; exact fun z => Nat.lt_irrefl _ (z ▸ g7)) xs hsz hb (fun i v e => ?_) vs.size 0 _ (Nat.sub_zero _) (Nat.zero_le _) ⟨⟨_, Heap.get?_push_size _ rfl, rfl, rfl⟩, g5.push _⟩ ⟨0, Nat.le_refl _, setR_new_at (Heap.get?_push_of_some _ g6)⟩ fun s2 n mv hn R => ?_)))
  · have hi := (Array.getElem?_eq_some_iff.mp e).1
    have hx := List.getElem?_eq_getElem (l := xs) (i := i) (by omega)
    obtain ⟨t, e2⟩ := IntsAre.int_at hv i v (by rw [Array.getElem?_toList]; exact e)
    exact ⟨_, t, hx, by rw [e2, List.getD_eq_getElem?_getD, hx]; rfl⟩
  · cases s2
    cases mv.gens
    cases mv.drawn
    cases mv.os
    refine wpAny_pure (wpAny_pure (hQ _ _ n R (by omega) fun b o e => mv.heap b o (fun m => ?_) (Heap.get?_push_of_some _ (Heap.get?_push_of_some _ e))))
    have := Heap.lt_size e
    simp only [z0, List.mem_cons, List.not_mem_nil, or_false] at m
    rcases m with rfl | rfl <;> first | exact Nat.lt_irrefl _ this | exact Nat.lt_irrefl _ (Nat.lt_of_succ_lt this)
theorem call_set_ls {L : Addr} {vs : Array Value} (xs : List Int) {Q : Value → Shared → Prop} (hA : A.handled = none) (hL : s.heap.IsList L vs) (hv : IntsAre vs.toList xs) (hb : xs.length + 1 < scanBound)
    (hQ : ∀ h' tk n, SetR w h' s.heap.objs.size (fun j => decide (j ∈ xs)) n → n ≤ xs.length → (∀ b o, s.heap.get? b = some o → h'.get? b = some o) → Q (.ref s.heap.objs.size) { s with heap := h', toks := tk }) :
    wpAny (model P w) A (call (.type "set") [.ref L]) Q E s := by
  obtain ⟨k0, k1, mro⟩ := F.called_set.mro
  have a1 := F.called_set.made
  have a2 := F.called_set.sub
  have a3 := F.called_set.notType
  have a4 := F.called_set.canCreate
  have a5 := F.typeCall_set_1 (.ref L)
  refine wpAny_call (codeAny_of_tree (show wpAny _ _ (callAny (.type "set") _) _ _ _ from wpAny_pure ⟨Code.quiet_builtin _ (by decide +kernel), codeAny_builtin F.entry_type_call ?_⟩))
  rw [Around.under_plain (weight_type_call_type "set" [.ref L] []) rfl]
  repeat (any_goals (first | assumption | wp_step))
  refine codeAny_mono (code_set_led1 (.ref L) (E := E) (Q₁ := fun v z => v = .ref s.heap.objs.size ∧ z = { s with heap := s.heap.push (set0 w) }) ⟨rfl, rfl⟩) fun r z hr => ?_
  match r, hr with
  | .error e, hr => exact hr
  | .ok (.ret v), hr =>
    obtain ⟨rfl, rfl⟩ := hr
    have b1 : Shared.TypeIs { s with heap := s.heap.push (set0 w) } (.ref s.heap.objs.size) "set" := ⟨_, Heap.get?_push_size _ rfl, rfl⟩
    have b2 := F.called_set.init.lookup
    have b3 := F.called_set.init.bind (.ref s.heap.objs.size)
    repeat (any_goals (first | assumption | wp_step))
    refine codeAny_mono (codeAny_call_builtin (R := wants (fun r s2 => r = .none ∧ Q (.ref s.heap.objs.size) s2) E) F.called_set.init.plain F.entry_set_init (check_set_init_1 b1 (set_fill xs (by simp [hA]) hL hv hb rfl fun h' tk n R hn hk => ⟨rfl, hQ h' tk n R hn hk⟩))) fun r2 s2 hr2 => ?_
    match r2, hr2 with
    | .error e, hr2 => exact hr2
    | .ok (.ret v2), hr2 =>
      obtain ⟨rfl, h⟩ := hr2
      repeat (any_goals (first | assumption | wp_step))
end
theorem nd_le : ∀ {l m : List Int}, l.Nodup → (∀ k ∈ l, k ∈ m) → l.length ≤ m.length
  | [], _, _, _ => Nat.zero_le _
  | x :: l, m, h, hs => by
    obtain ⟨h1, h2⟩ := List.nodup_cons.mp h
    have hx := hs x List.mem_cons_self
    have := nd_le (m := m.erase x) h2 fun k hk => (List.mem_erase_of_ne (fun e : k = x => h1 (by rw [← e]; exact hk))).mpr (hs k (List.mem_cons_of_mem _ hk))
    rw [List.length_erase_of_mem hx] at this
    have := List.length_pos_of_mem hx
    rw [List.length_cons]; omega
theorem nd_eq {l m : List Int} (h : l.Nodup) (h2 : m.Nodup) (e : ∀ k, k ∈ l ↔ k ∈ m) : l.length = m.length := Nat.le_antisymm (nd_le h fun k => (e k).mp) (nd_le h2 fun k => (e k).mpr)
theorem asc_nd {l : List Int} (h : l.Pairwise (· < ·)) : l.Nodup := h.imp fun a => Int.ne_of_lt a
theorem asc_mem : ∀ {l m : List Int}, l.Pairwise (· < ·) → m.Pairwise (· < ·) → (∀ k, k ∈ l ↔ k ∈ m) → l = m
  | [], [], _, _, _ => rfl
  | [], y :: m, _, _, e => nomatch (e y).mpr List.mem_cons_self
  | x :: l, [], _, _, e => nomatch (e x).mp List.mem_cons_self
  | x :: l, y :: m, h, h2, e => by
    obtain ⟨a1, a2⟩ := List.pairwise_cons.mp h
    obtain ⟨b1, b2⟩ := List.pairwise_cons.mp h2
    have hxy : x = y := by
      rcases List.mem_cons.mp ((e x).mp List.mem_cons_self) with h | h
      · exact h
      · rcases List.mem_cons.mp ((e y).mpr List.mem_cons_self) with h3 | h3
        · exact h3.symm
        · have := a1 y h3
          have := b1 x h
          omega
    subst hxy
    rw [asc_mem a2 b2 fun k => ⟨fun hk => ?_, fun hk => ?_⟩]
    · rcases List.mem_cons.mp ((e k).mp (List.mem_cons_of_mem _ hk)) with h | h
      · have := a1 k hk; omega
      · exact h
    · rcases List.mem_cons.mp ((e k).mpr (List.mem_cons_of_mem _ hk)) with h | h
      · have := b1 k hk; omega
      · exact h
section
variable {X : Cx}
def tSortSet (K : PySem.W.Frag) (ta : TE) : TE := fun σ H Q => ta σ H fun x H1 => ∃ (l : Addr) (ns ys : List Int), x = V.ref l ∧ SqL K H1 l (ns.map V.int) ∧ ns.length ≤ 4000 ∧ ys.Pairwise (· < ·) ∧ (∀ k, k ∈ ys ↔ k ∈ ns) ∧ ys.length < 64 ∧ ∀ p, H1 p = none → Q (.ref p) (upd H1 p (.lst (ys.map V.int)))
theorem pe_sortSet {a : Expr} {ta : TE} {p p2 q pos : Pos} (hc : X.calm = true) (g1 : Gl X "sorted") (m1 : X.mg "sorted" = none) (g2 : Gl X "set") (m2 : X.mg "set" = none) (ha : PE X a ta)
    (st : starEach [a] X.env = (false, eval a X.env) :: starEach [] X.env) : PE X (.Call (.Name "sorted" p) [.Call (.Name "set" p2) [a] [] q] [] pos) (tSortSet X.K ta) :=
  ⟨fun pins s σ H Q I h => by
    refine Call_ (ld_blt (u := .builtin "sorted") I g1 m1 (by decide +kernel) (PyProof.Rows.callWith_builtin1 (PyProof.Rows.args_cons (Call_ (ld_blt I g2 m2 PyProof.Rows.boot_set (PyProof.Rows.callWith_type1 (PyProof.Rows.args_cons (thn (ha.run pins s σ H _ I h) ?_) st) st rfl))) rfl) rfl rfl))
    rintro v s1 ⟨x, H1, I1, r1, l, ns, ys, rfl, hq, hl, y1, y2, y3, q1⟩
    cases r1
    refine PyProof.Rows.args_nil ?_
    obtain ⟨its, r, pl, -⟩ := I1.list hq
    refine call_set_ls ns (I1.ok.hd hc) pl.isList (by simpa using r.ints) (by unfold scanBound; omega) fun h' tk n R hn hk => PyProof.Rows.args_nil ?_
    have I2 : Inv X pins σ H1 { s1 with heap := h', toks := tk } := I1.kept (t' := tk) fun b o e => hk b o e
    have hn2 : n = ys.length := by
      obtain ⟨o, es, ep, t, -, -, -, -, nd, hm, -, -, hz, -⟩ := id R
      rw [← hz, ← nd_eq nd (asc_nd y1) fun k => by rw [← hm, decide_eq_true_iff, y2], List.length_map, Array.length_toList]
    refine sorted_set R (I2.ok.hd hc) (by omega) fun s2 b out c zs k g o hp hg hi hs hm hlz => ?_
    cases asc_mem hs y1 fun k => by rw [hm, decide_eq_true_iff, y2]
    have hnb := I2.hok.fresh hp
    cases s2
    cases g
    cases o
    have hnb : H1 b = none := hnb
    exact ⟨.ref b, upd H1 b (.lst (ys.map V.int)), I1.call (ch := []) (Un.laid (fun b u e => k b u (hk b u e)) (Nat.le_trans (Nat.le_of_lt R.lt) hp) hnb) (I2.hok.laid k hp ⟨by rw [List.length_map, sizeLine_eq]; omega, _, c, vals_of_ints hi, hg⟩) I1.bare (fun _ z => nomatch z), rfl, q1 b hnb⟩⟩
end
variable [Tb]
variable {c : CxD} {B : Bs} {a : Expr} {sl sl1 : List Sl} {p : Bool} {k1 : Kd} {xs ys : List Int} {p1 p2 q pos : Pos}
/-- sorted(set(xs)) -/
theorem ev_sortSet (ys : List Int) (ha : EV c B a sl p k1 sl1) (m1 : c.mg "sorted" = none) (m2 : c.mg "set" = none) (hb : xs.length ≤ 4000) (y1 : ys.Pairwise (· < ·)) (y2 : ∀ k, k ∈ ys ↔ k ∈ xs) (y3 : ys.length < 64) (hl : LsK k1 (nums xs) := by first | exact .st | exact .ls | exact .fr) (g1 : c.sc.names.lookup ("sorted" : Str) = some .globalImplicit := by rfl) (g2 : c.sc.names.lookup ("set" : Str) = some .globalImplicit := by rfl)
    (st : ∀ env, starEach [a] env = (false, eval a env) :: starEach [] env := by intro env; rfl) : EV c B (.Call (.Name "sorted" p1) [.Call (.Name "set" p2) [a] [] q] [] pos) sl p (.fr (.lst (nums ys))) sl1 := by
  obtain ⟨ta, ha, hs⟩ := ha
  refine ⟨tSortSet c.K ta, fun X hX => by
    have := pe_sortSet (p := p1) (p2 := p2) (q := q) (pos := pos) hX.calm (hX.gl g1) (by rw [hX.hm]; exact m1) (hX.gl g2) (by rw [hX.hm]; exact m2) (ha X hX) (st _)
    rwa [hX.hK] at this, fun S H σ I Q fn => hs S H σ I _ fun v S1 H1 I1 a1 x1 f1 => ?_⟩
  obtain ⟨l, vs, rfl, h1, t⟩ := hl.rd I1 x1
  refine ⟨l, xs, ys, rfl, trs_nums_eq t ▸ h1, hb, y1, y2, y3, fun b hb => ?_⟩
  exact (fin fn a1 fun h => h).fresh I1 hb (trs_nums _)
end Mw

/-! NwZN: + where the right side changes objects. -/
namespace Mw
open PySem PySem.Spec L2
variable [Tb]
variable {c : CxD} {B : Bs} {a b : Expr} {sl sl1 sl2 : List Sl} {p q : Bool} {k1 k2 : Kd} {ds ds' : List PyData} {xs ys : List Int} {pos : Pos}
theorem ev_catF (ha : EV c B a sl p k1 sl1) (hb : EV c B b sl1 q k2 sl2) (hz : ds.length + ds'.length ≤ 1000000) (hk : (q || k1.firm) = true := by rfl) (h1 : LsK k1 ds := by first | exact .st | exact .ls | exact .fr) (h2 : LsK k2 ds' := by first | exact .st | exact .ls | exact .fr) : EV c B (.BinOp a .Add b pos) sl (p && q) (.fr (.lst (ds ++ ds'))) sl2 :=
  ev_bin (pos := pos) (op := .Add) (r := rCatQ c.K) (k := .fr (.lst (ds ++ ds'))) (fun X hX => by rw [← hX.hK]; exact op_catQ) (fun B σ sl S H x y I hx hy Q q => by
    obtain ⟨l, xs, rfl, hl, tx⟩ := h1.rd I hx
    obtain ⟨m, ys, rfl, hm, ty⟩ := h2.rd I hy
    exact ⟨l, m, xs, ys, rfl, rfl, hl, hm, by rw [tx.len, ty.len, sizeLine_eq]; omega, fun z hn => q.fresh I hn (tx.app ty)⟩) ha hb hk
theorem ev_catFN (ha : EV c B a sl p k1 sl1) (hb : EV c B b sl1 q k2 sl2) (hz : xs.length + ys.length ≤ 1000000) (hk : (q || k1.firm) = true := by rfl) (h1 : LsK k1 (nums xs) := by first | exact .st | exact .ls | exact .fr) (h2 : LsK k2 (nums ys) := by first | exact .st | exact .ls | exact .fr) : EV c B (.BinOp a .Add b pos) sl (p && q) (.fr (.lst (nums (xs ++ ys)))) sl2 :=
  (ev_catF ha hb (by rw [len_nums, len_nums]; exact hz) hk h1 h2).to (by rw [nums_app])
end Mw

/-! NwZO: dicts by numbers and texts: {}, d[k], d.get(k, x), k in d, d[k] = x, len(d). -/
namespace Mw
open PySem PySem.Spec L2
/-- a dict by its keys -/
def dD (kvs : List (Key × PyData)) : PyData := .dict (kvs.map fun p => (keyD p.1, p.2))
def getK (kvs : List (Key × PyData)) (k : Key) : Option PyData := (kvs.find? fun p => decide (p.1 = k)).map (·.2)
def setK (kvs : List (Key × PyData)) (k : Key) (d : PyData) : List (Key × PyData) :=
  if (kvs.any fun p => decide (p.1 = k)) = true then kvs.map (fun p => if p.1 = k then (p.1, d) else p) else kvs ++ [(k, d)]
theorem getK_pos {p : Key × PyData} {r : List (Key × PyData)} {k : Key} (e : p.1 = k) : getK (p :: r) k = some p.2 := by simp [getK, List.find?_cons, e]
theorem getK_neg {p : Key × PyData} {r : List (Key × PyData)} {k : Key} (e : ¬ p.1 = k) : getK (p :: r) k = getK r k := by simp [getK, List.find?_cons, e]
theorem getK_any (k : Key) : ∀ kvs : List (Key × PyData), (kvs.any fun p => decide (p.1 = k)) = (getK kvs k).isSome
  | [] => rfl
  | p :: r => by
    rw [List.any_cons, getK_any k r]
    by_cases e : p.1 = k
    · rw [getK_pos e]; simp [e]
    · rw [getK_neg e]; simp [e]
theorem getK_set (k j : Key) (d : PyData) (kvs : List (Key × PyData)) : getK (setK kvs k d) j = if j = k then some d else getK kvs j := by
  unfold setK
  by_cases h : (kvs.any fun p => decide (p.1 = k)) = true
  · rw [if_pos h]
    have : ∀ l : List (Key × PyData), getK (l.map fun p => if p.1 = k then (p.1, d) else p) j = if j = k then (getK l j).map (fun _ => d) else getK l j := fun l => by
      induction l with
      | nil => simp [getK]
      | cons p r ih =>
        rw [List.map_cons]
        by_cases hp : p.1 = k
        · rw [if_pos hp]
          by_cases hj : p.1 = j
          · rw [getK_pos (p := (p.1, d)) hj, getK_pos hj, if_pos (hj ▸ hp)]; rfl
          · rw [getK_neg (p := (p.1, d)) hj, getK_neg hj, ih]
        · rw [if_neg hp]
          by_cases hj : p.1 = j
          · rw [getK_pos hj, getK_pos hj, if_neg (fun z => hp (hj.trans z))]
          · rw [getK_neg hj, getK_neg hj, ih]
    rw [this]
    by_cases hj : j = k
    · subst hj
      rw [getK_any] at h
      obtain ⟨x, hx⟩ := Option.isSome_iff_exists.mp h
      rw [if_pos rfl, if_pos rfl, hx]; rfl
    · rw [if_neg hj, if_neg hj]
  · rw [if_neg h]
    have hn : getK kvs k = none := by
      rw [getK_any] at h
      cases e : getK kvs k with
      | none => rfl
      | some x => rw [e] at h; exact absurd rfl h
    have : ∀ l : List (Key × PyData), getK l k = none → getK (l ++ [(k, d)]) j = if j = k then some d else getK l j := fun l => by
      induction l with
      | nil =>
        intro _
        by_cases hj : j = k
        · subst hj; rw [if_pos rfl]; exact getK_pos (p := (j, d)) rfl
        · rw [if_neg hj]; exact getK_neg (p := (k, d)) fun z => hj z.symm
      | cons p r ih =>
        intro hl
        have hp : ¬ p.1 = k := fun z => by rw [getK_pos z] at hl; cases hl
        rw [getK_neg hp] at hl
        rw [List.cons_append]
        by_cases hj : p.1 = j
        · rw [getK_pos hj, getK_pos hj, if_neg (fun z => hp (hj.trans z))]
        · rw [getK_neg hj, getK_neg hj, ih hl]
    exact this kvs hn
section
variable {K : PySem.W.Frag} {S : Hp}
abbrev PrK (K : PySem.W.Frag) (S : Hp) : List (Key × V) → List (Key × PyData) → Prop := Paired (fun p q => p.1 = q.1 ∧ Tr K S p.2 q.2)
theorem prK_get (k : Key) : ∀ {xs : List (Key × V)} {kvs : List (Key × PyData)}, PrK K S xs kvs → (valV xs k = none ∧ getK kvs k = none) ∨ ∃ v d, valV xs k = some v ∧ getK kvs k = some d ∧ Tr K S v d
  | _, _, .nil => .inl ⟨rfl, rfl⟩
  | p :: xs, q :: kvs, .cons h t => by
    by_cases e : p.1 = k
    · exact .inr ⟨p.2, q.2, valV_pos e, getK_pos (h.1.symm.trans e), h.2⟩
    · have e2 : ¬ q.1 = k := fun z => e (h.1.trans z)
      rw [valV_neg e, getK_neg e2]
      exact prK_get k t
theorem prK_len : ∀ {xs : List (Key × V)} {kvs : List (Key × PyData)}, PrK K S xs kvs → xs.length = kvs.length
  | _, _, .nil => rfl
  | _, _, .cons _ t => congrArg (· + 1) (prK_len t)
theorem prK_any (k : Key) : ∀ {xs : List (Key × V)} {kvs : List (Key × PyData)}, PrK K S xs kvs → (xs.any fun p => decide (p.1 = k)) = kvs.any fun p => decide (p.1 = k)
  | _, _, .nil => rfl
  | _, _, .cons h t => by rw [List.any_cons, List.any_cons, prK_any k t, h.1]
theorem prK_map (k : Key) {v : V} {d : PyData} (hv : Tr K S v d) : ∀ {xs : List (Key × V)} {kvs : List (Key × PyData)}, PrK K S xs kvs → PrK K S (xs.map fun p => if p.1 = k then (p.1, v) else p) (kvs.map fun p => if p.1 = k then (p.1, d) else p)
  | _, _, .nil => .nil
  | p :: xs, q :: kvs, .cons h t => by
    refine .cons ?_ (prK_map k hv t)
    show (if p.1 = k then (p.1, v) else p).1 = (if q.1 = k then (q.1, d) else q).1 ∧ Tr K S (if p.1 = k then (p.1, v) else p).2 (if q.1 = k then (q.1, d) else q).2
    by_cases e : p.1 = k
    · rw [if_pos e, if_pos (h.1.symm.trans e)]; exact ⟨h.1, hv⟩
    · rw [if_neg e, if_neg (fun z => e (h.1.trans z))]; exact h
theorem prK_snoc {v : V} {d : PyData} (k : Key) (hv : Tr K S v d) : ∀ {xs : List (Key × V)} {kvs : List (Key × PyData)}, PrK K S xs kvs → PrK K S (xs ++ [(k, v)]) (kvs ++ [(k, d)])
  | _, _, .nil => .cons ⟨rfl, hv⟩ .nil
  | _, _, .cons h t => .cons h (prK_snoc k hv t)
theorem prK_set {v : V} {d : PyData} (k : Key) (hv : Tr K S v d) {xs : List (Key × V)} {kvs : List (Key × PyData)} (h : PrK K S xs kvs) : PrK K S (putK xs k v) (setK kvs k d) := by
  unfold putK setK
  rw [prK_any k h]
  split
  · exact prK_map k hv h
  · exact prK_snoc k hv h
theorem trk_pr : ∀ {xs : List (Key × V)} {ds : List (PyData × PyData)} {kvs : List (Key × PyData)}, Trk K S xs ds → ds = kvs.map (fun p => (keyD p.1, p.2)) → PrK K S xs kvs
  | _, _, [], .nil, _ => .nil
  | _, _, _ :: _, .nil, h => by cases h
  | _, _, [], .cons _ _, h => by cases h
  | _, _, q :: kvs, .cons (k := k) h t, e => by
    rw [List.map_cons] at e
    obtain ⟨e1, e2⟩ := List.cons.inj e
    obtain ⟨e3, e4⟩ := Prod.mk.inj e1
    have hk : k = q.1 := by
      cases k <;> rcases q with ⟨qk, qd⟩ <;> cases qk <;> simp [keyD] at e3 ⊢ <;> exact e3
    exact .cons ⟨hk, e4 ▸ h⟩ (trk_pr t e2)
theorem tr_dD [Tb] {v : V} {kvs : List (Key × PyData)} (h : Tr K S v (dD kvs)) : ∃ a xs, v = .ref a ∧ Rd S a (.dK xs) ∧ PrK K S xs kvs := by
  obtain ⟨a, xs, e, h1, h2⟩ := tr_dct h fun x hx => by
    obtain ⟨p, _, rfl⟩ := List.mem_map.mp hx
    exact keyD_nn
  exact ⟨a, xs, e, h1, trk_pr h2 rfl⟩
theorem tr_key {v : V} {k : Key} (h : Tr K S v (keyD k)) : v = kV k := by
  cases k with
  | inl i => have h : Tr K S v (.int i) := h; cases h; rfl
  | inr x => have h : Tr K S v (.str x) := h; cases h; rfl
end
/-- what may be read as a dict -/
def RdD (K : PySem.W.Frag) (S H : Hp) (v : V) (kvs : List (Key × PyData)) : Prop := ∃ a xs, v = .ref a ∧ Rd H a (.dK xs) ∧ PrK K S xs kvs
inductive DcK (sl : List Sl) : Kd → List (Key × PyData) → Prop
  | st {kvs : List (Key × PyData)} : DcK sl (.st (dD kvs)) kvs
  | fr {kvs : List (Key × PyData)} : DcK sl (.fr (.dct kvs)) kvs
  | nm {i : Nat} {s : Sl} {kvs : List (Key × PyData)} (hs : sl[i]? = some s) (ho : s.ow = some (.dct kvs)) : DcK sl (.at i) kvs
section
variable [Tb]
variable {c : CxD} {B : Bs} {a b e f : Expr} {rest : List Stmt} {sl sl1 sl2 : List Sl} {p q : Bool} {k1 : Kd} {kvs : List (Key × PyData)} {k : Key} {d d0 : PyData} {pos p1 p2 apos : Pos} {R : Rt}
theorem DcK.firm (h : DcK sl k1 kvs) : k1.firm = true := by cases h <;> rfl
theorem DcK.rd {K : PySem.W.Frag} {S H : Hp} {σ : L2.St} {v : V} (h : DcK sl k1 kvs) (I : Stt K B S H σ sl) (x : KdOk K B σ sl S H v k1) : RdD K S H v kvs := by
  cases h with
  | st =>
    obtain ⟨a, xs, e, h1, h2⟩ := tr_dD x
    exact ⟨a, xs, e, sam_rd (same_sam I.sh) dK_nt h1, h2⟩
  | fr =>
    obtain ⟨l, e, -, -, ⟨xs, h1, h2⟩, -⟩ := x
    exact ⟨l, xs, e, .inl h1, h2⟩
  | nm hs ho =>
    obtain ⟨l, e, -, xs, h1, h2⟩ := I.own hs ho
    have x : σ[_]? = some (some v) := x
    rw [e] at x
    cases x
    exact ⟨l, xs, rfl, .inl h1, h2⟩
theorem ev_dnew : EV c B (.Dict [] [] pos) sl true (.fr (.dct [])) sl :=
  ⟨tDNewK, fun X hX => pe_dnewK, fun S H σ I Q fn l hl => by
    obtain ⟨h1, h2, h3⟩ := I.notIn hl
    exact fn _ S _ (I.laid hl) (.same (same_new hl)) ⟨l, rfl, h1, h2, ⟨[], upd_same, .nil⟩, h3⟩ (fun l' e => by cases e; exact hl)⟩
/-- d[k] -/
theorem ev_dix (ha : EV c B a sl p k1 sl1) (hy : EV c B e sl1 true (.st (keyD k)) sl1) (hd : DcK sl1 k1 kvs) (hg : getK kvs k = some d) (hs : NoSl e := by exact fun _ _ => rfl) : EV c B (.Subscript a e pos) sl p (.st d) sl1 := by
  obtain ⟨ta, ga, sa⟩ := ha
  obtain ⟨ty, gy, sy⟩ := hy
  refine ⟨tDGet ta ty, fun X hX => pe_dget (by have := hX.rm.units; omega) (ga X hX) (gy X hX) hs, fun S H σ I Q fn => ?_⟩
  refine sa S H σ I _ fun x S1 H1 I1 a1 x1 _ => sy S1 H1 σ I1 _ fun y S2 H2 I2 a2 x2 _ => ?_
  obtain ⟨l, xs, rfl, h1, h2⟩ := hd.rd I2 (x1.adv a2 rfl)
  cases tr_key x2
  rcases prK_get k h2 with ⟨_, h3⟩ | ⟨v, d', h3, h4, h5⟩
  · rw [hg] at h3; cases h3
  · rw [hg] at h4; cases h4
    exact ⟨l, v, rfl, .inl ⟨xs, k, h1, rfl, h3.symm⟩, fn _ S2 H2 I2 (a1.trans a2 |>.weak fun h => by rw [h]; rfl) h5 trivial⟩
/-- d.get(k, x) -/
theorem ev_dget (ha : EV c B a sl p k1 sl1) (hy : EV c B e sl1 true (.st (keyD k)) sl1) (hf : EV c B f sl1 true (.st d0) sl1) (hd : DcK sl1 k1 kvs) (m : ∀ X : Cx, M2 X a "get" apos e f pos := by intro X; exact ⟨rfl, rfl, rfl, rfl⟩) : EV c B (.Call (.Attribute a "get" apos) [e, f] [] pos) sl p (.st ((getK kvs k).getD d0)) sl1 := by
  obtain ⟨ta, ga, sa⟩ := ha
  obtain ⟨ty, gy, sy⟩ := hy
  obtain ⟨tf, gf, sf⟩ := hf
  refine ⟨tDGet2 ta ty tf, fun X hX => pe_dget2 (by have := hX.rm.units; omega) (ga X hX) (gy X hX) (gf X hX) (m X), fun S H σ I Q fn => ?_⟩
  refine sa S H σ I _ fun x S1 H1 I1 a1 x1 _ => ?_
  obtain ⟨l, xs, rfl, h1, h2⟩ := hd.rd I1 x1
  refine ⟨l, rfl, .inl ⟨xs, h1⟩, sy S1 H1 σ I1 _ fun y S2 H2 I2 a2 x2 _ => sf S2 H2 σ I2 _ fun z S3 H3 I3 a3 x3 _ => ?_⟩
  obtain ⟨l', xs', e', h1', h2'⟩ := hd.rd I3 ((x1.adv a2 rfl).adv a3 rfl)
  cases e'
  cases tr_key x2
  have ad := (a1.trans (a2.trans a3)).weak (q := p) fun h => by rw [h]; rfl
  rcases prK_get k h2' with ⟨h3, h4⟩ | ⟨v, d', h3, h4, h5⟩
  · refine ⟨none, .inl ⟨xs', k, h1', rfl, h3.symm⟩, fn _ S3 H3 I3 ad ?_ trivial⟩
    rw [h4]; exact x3
  · refine ⟨some v, .inl ⟨xs', k, h1', rfl, h3.symm⟩, fn _ S3 H3 I3 ad ?_ trivial⟩
    rw [h4]; exact h5
/-- k in d -/
theorem cm_inD (hy : EV c B e sl p (.st (keyD k)) sl1) (ha : EV c B a sl1 true k1 sl1) (hd : DcK sl1 k1 kvs) (hm : behindInMarks .In a = false := by with_unfolding_all rfl) : CM c B .In e a sl p (getK kvs k).isSome sl1 := by
  obtain ⟨ta, ga, sa⟩ := ha
  obtain ⟨ty, gy, sy⟩ := hy
  refine ⟨tDIn ty ta, fun X pos hX => ⟨pe_cmp (pc_din (by have := hX.rm.units; omega) (gy X hX) (ga X hX)) hm, pt_cmp (pc_din (by have := hX.rm.units; omega) (gy X hX) (ga X hX)) hm⟩, fun S H σ I Q fn => ?_⟩
  refine sy S H σ I _ fun y S1 H1 I1 a1 x1 _ => sa S1 H1 σ I1 _ fun x S2 H2 I2 a2 x2 _ => ?_
  obtain ⟨l, xs, rfl, h1, h2⟩ := hd.rd I2 x2
  cases tr_key x1
  refine ⟨l, _, rfl, .inl ⟨xs, k, h1, rfl, rfl⟩, fn _ S2 H2 I2 (a1.trans a2 |>.weak fun h => by rw [h]; rfl) ?_ trivial⟩
  rcases prK_get k h2 with ⟨h3, h4⟩ | ⟨v, d', h3, h4, h5⟩
  · rw [h3, h4]; exact .bl _
  · rw [h3, h4]; exact .bl _
theorem cm_notInD (hy : EV c B e sl p (.st (keyD k)) sl1) (ha : EV c B a sl1 true k1 sl1) (hd : DcK sl1 k1 kvs) (hm : behindInMarks .NotIn a = false := by with_unfolding_all rfl) : CM c B .NotIn e a sl p (!(getK kvs k).isSome) sl1 := by
  obtain ⟨ta, ga, sa⟩ := ha
  obtain ⟨ty, gy, sy⟩ := hy
  refine ⟨tDNotIn ty ta, fun X pos hX => ⟨pe_cmp (pc_dnotin (by have := hX.rm.units; omega) (gy X hX) (ga X hX)) hm, pt_cmp (pc_dnotin (by have := hX.rm.units; omega) (gy X hX) (ga X hX)) hm⟩, fun S H σ I Q fn => ?_⟩
  refine sy S H σ I _ fun y S1 H1 I1 a1 x1 _ => sa S1 H1 σ I1 _ fun x S2 H2 I2 a2 x2 _ => ?_
  obtain ⟨l, xs, rfl, h1, h2⟩ := hd.rd I2 x2
  cases tr_key x1
  refine ⟨l, _, rfl, .inl ⟨xs, k, h1, rfl, rfl⟩, fn _ S2 H2 I2 (a1.trans a2 |>.weak fun h => by rw [h]; rfl) ?_ trivial⟩
  rcases prK_get k h2 with ⟨h3, h4⟩ | ⟨v, d', h3, h4, h5⟩
  · rw [h3, h4]; exact .bl _
  · rw [h3, h4]; exact .bl _
/-- d[k] = x, the dict in a slot -/
theorem go_dset (i : Nat) {x : Str} {s : Sl} {tpos : Pos} (hx : EV c B e sl p (.st d) sl1) (hy : EV c B b sl1 true (.st (keyD k)) sl1) (h3 : GO c B rest (sl1.set i (s.put (.dct (setK kvs k d)))) R) (hl : kvs.length ≤ 1000000) (hs : sl1[i]? = some s := by rfl) (ho : s.ow = some (.dct kvs) := by rfl) (hN : c.N[i]? = some x := by rfl) (hv : Vis c.sc x := by first | exact .inl rfl | exact .inr (.inl rfl) | exact .inr (.inr rfl))
    (h1 : (x == ("__debug__" : Str)) = false := by decide) (h2 : (x == ("__classdict__" : Str)) = false := by decide)
    (hsw : ∀ env, swapsWith e (some (.Subscript (.Name x p1) b tpos)) pos.line env = pure false := by intro _; rfl) : GO c B (.Assign [.Subscript (.Name x p1) b tpos] e pos :: rest) sl R := by
  obtain ⟨te, ge, se⟩ := hx
  obtain ⟨tb, gb, sb⟩ := hy
  refine go_to (sl1 := sl1.set i (s.put (.dct (setK kvs k d)))) ⟨sDPut (tVar i) tb te, fun X hX => ps_dput (by have := hX.rm.units; omega) (pe_var (by rw [hX.hN]; exact hN) (hX.v x hv) h1 h2) (gb X hX) (ge X hX) (hsw _), fun S H σ I D q => ?_⟩ h3
  refine se S H σ I _ fun v S1 H1 I1 a1 x1 _ => ?_
  obtain ⟨l, el, nl, -⟩ := I1.own hs ho
  refine ⟨.ref l, el, sb S1 H1 σ I1 _ fun w S2 H2 I2 a2 x2 _ => ?_⟩
  obtain ⟨l', el', nl', xs, hx, tx⟩ := I2.own hs ho
  rw [el] at el'
  cases el'
  cases tr_key x2
  refine ⟨l, _, rfl, .inl ⟨xs, k, hx, rfl, by rw [prK_len tx, sizeLine_eq]; omega, rfl⟩, ?_⟩
  have I3 := I2.mutate (u := .dK (putK xs k v)) hs ho (put_ow (o' := .dct (setK kvs k d)) ho) put_kind el ⟨_, upd_same, prK_set k (Tr.mono a2.s x1) tx⟩
  exact q.nx S2 _ σ _ (a1.s.trans a2.s) I3 rfl
end
end Mw

/-! NwZP: a dict of one's own whose values are lists that change. -/
namespace Mw
open PySem PySem.Spec L2
def getT (kvs : List (Key × PTr)) (k : Key) : Option PTr := (kvs.find? fun p => decide (p.1 = k)).map (·.2)
def setT (kvs : List (Key × PTr)) (k : Key) (t : PTr) : List (Key × PTr) := kvs.map fun p => if p.1 = k then (p.1, t) else p
theorem getT_pos {p : Key × PTr} {r : List (Key × PTr)} {k : Key} (e : p.1 = k) : getT (p :: r) k = some p.2 := by simp [getT, List.find?_cons, e]
theorem getT_neg {p : Key × PTr} {r : List (Key × PTr)} {k : Key} (e : ¬ p.1 = k) : getT (p :: r) k = getT r k := by simp [getT, List.find?_cons, e]
theorem setT_no {k : Key} {t : PTr} : ∀ {kvs : List (Key × PTr)}, getT kvs k = none → setT kvs k t = kvs
  | [], _ => rfl
  | p :: r, h => by
    by_cases e : p.1 = k
    · rw [getT_pos e] at h; cases h
    · rw [getT_neg e] at h
      show (if p.1 = k then _ else p) :: setT r k t = _
      rw [if_neg e, setT_no h]
variable [Tb]
theorem trp_dct {K : PySem.W.Frag} {S H : Hp} {fp : List Addr} {v : V} {ts : List (Key × PTr)} (h : TrP K S H fp v (.dct ts)) : ∃ l xs f, v = .ref l ∧ fp = l :: f ∧ H l = some (.dK xs) ∧ TrPk K S H f xs ts :=
  match ts, h with
  | _, .dct h t => ⟨_, _, _, rfl, rfl, h, t⟩
theorem trpk_none {K : PySem.W.Frag} {S H : Hp} {k : Key} : ∀ {fp : List Addr} {xs : List (Key × V)} {ts : List (Key × PTr)}, TrPk K S H fp xs ts → getT ts k = none → valV xs k = none
  | _, _, _, .nil, _ => rfl
  | _, _, _, .cons (k := k2) (v := v) (d := d) h t, hg => by
    by_cases e : k2 = k
    · rw [getT_pos (p := (k2, d)) e] at hg; cases hg
    · rw [getT_neg (p := (k2, d)) e] at hg
      rw [valV_neg (p := (k2, v)) e]
      exact trpk_none t hg
theorem trpk_len {K : PySem.W.Frag} {S H : Hp} : ∀ {fp : List Addr} {xs : List (Key × V)} {ts : List (Key × PTr)}, TrPk K S H fp xs ts → xs.length = ts.length
  | _, _, _, .nil => rfl
  | _, _, _, .cons _ t => congrArg (· + 1) (trpk_len t)
/-- a dict with one more -/
theorem trpk_snoc {K : PySem.W.Frag} {S H : Hp} {k : Key} {v : V} {t : PTr} {g : List Addr} (hv : TrP K S H g v t) : ∀ {fp : List Addr} {xs : List (Key × V)} {ts : List (Key × PTr)}, TrPk K S H fp xs ts → TrPk K S H (fp ++ g) (xs ++ [(k, v)]) (ts ++ [(k, t)])
  | _, _, _, .nil => by
    have := TrPk.cons (k := k) hv .nil
    rwa [List.append_nil] at this
  | _, _, _, .cons (f1 := f1) (f2 := f2) h r => by
    rw [List.append_assoc]
    exact .cons h (trpk_snoc hv r)
/-- the value at a key, and what may stand for it -/
theorem trpk_split {K : PySem.W.Frag} {S H : Hp} {k : Key} {t : PTr} : ∀ {fp : List Addr} {xs : List (Key × V)} {ts : List (Key × PTr)}, TrPk K S H fp xs ts → getT ts k = some t → (ts.map (·.1)).Nodup →
    ∃ (v : V) (g0 g g1 : List Addr), valV xs k = some v ∧ fp = g0 ++ (g ++ g1) ∧ TrP K S H g v t ∧ ∀ S' H' g' t', Same S S' → TrP K S' H' g' v t' → (∀ a ∈ g0, H' a = H a) → (∀ a ∈ g1, H' a = H a) → TrPk K S' H' (g0 ++ (g' ++ g1)) xs (setT ts k t')
  | _, _, _, .nil, h, _ => by cases h
  | _, _, _, .cons (k := k2) (v := v) (d := d) (ds := ds) (f1 := f1) (f2 := f2) h r, hg, nd => by
    obtain ⟨n1, n2⟩ := List.nodup_cons.mp nd
    by_cases e : k2 = k
    · rw [getT_pos (p := (k2, d)) e] at hg
      cases hg
      refine ⟨v, [], f1, f2, valV_pos (p := (k2, v)) e, rfl, h, fun S' H' g' t' s tr _ h1 => ?_⟩
      have hno : getT ds k = none := by
        cases hh : getT ds k with
        | none => rfl
        | some u =>
          unfold getT at hh
          obtain ⟨p, hp, _⟩ := Option.map_eq_some_iff.mp hh
          have hm := List.mem_of_find?_eq_some hp
          have hk : decide (p.1 = k) = true := List.find?_some (p := fun p : Key × PTr => decide (p.1 = k)) hp
          have hk := of_decide_eq_true hk
          exact absurd (List.mem_map.mpr ⟨p, hm, hk.trans e.symm⟩) n1
      show TrPk K S' H' (g' ++ f2) _ ((if k2 = k then (k2, t') else (k2, d)) :: setT ds k t')
      rw [if_pos e, setT_no hno]
      exact .cons tr (TrPk.ext s r h1)
    · rw [getT_neg (p := (k2, d)) e] at hg
      obtain ⟨w, g0, g, g1, e1, e2, e3, e4⟩ := trpk_split r hg n2
      refine ⟨w, f1 ++ g0, g, g1, by rw [valV_neg (p := (k2, v)) e]; exact e1, by rw [e2, List.append_assoc], e3, fun S' H' g' t' s tr h0 h1 => ?_⟩
      show TrPk K S' H' _ _ ((if k2 = k then (k2, t') else (k2, d)) :: setT ds k t')
      rw [if_neg e, List.append_assoc]
      exact .cons (TrP.ext s h fun a m => h0 a (List.mem_append_left _ m)) (e4 S' H' g' t' s tr (fun a m => h0 a (List.mem_append_right _ m)) h1)
section
variable {c : CxD} {B : Bs} {e b : Expr} {rest : List Stmt} {sl sl1 : List Sl} {p : Bool} {kvs : List (Key × PTr)} {k : Key} {d : PyData} {ds : List PyData} {t : PTr} {fp : List Addr} {pos p1 p2 p3 p4 tpos : Pos} {R : Rt} {nm : Str}
theorem evp_dnew : EVP c B (.Dict [] [] pos) sl true (.dct []) sl :=
  ⟨tDNewK, fun X hX => pe_dnewK, fun S H σ I Q fn l hl => by
    obtain ⟨h1, h2, h3⟩ := I.notIn hl
    refine fn _ S _ [l] (I.laid hl) (.same (same_new hl)) (.dct upd_same .nil) (by simp) fun a m => ?_
    rw [List.mem_singleton.mp m]
    exact ⟨h1, h2, h3, hl⟩⟩
/-- d[k] = a new tree, where k is new -/
theorem go_dnewk (i : Nat) (hx : EVP c B e sl p t sl1) (hy : EV c B b sl1 true (.st (keyD k)) sl1) (hk : getT kvs k = none) (h3 : ∀ fp2, GO c B rest (sl1.set i (.prv (.dct (kvs ++ [(k, t)])) fp2)) R) (hl : kvs.length ≤ 1000000) (hs : sl1[i]? = some (.prv (.dct kvs) fp) := by rfl) (nmx : Nm c i nm := by exact ⟨rfl, by first | exact .inl rfl | exact .inr (.inl rfl) | exact .inr (.inr rfl), by decide, by decide⟩)
    (hsw : ∀ env, swapsWith e (some (.Subscript (.Name nm p1) b tpos)) pos.line env = pure false := by intro _; rfl) : GO c B (.Assign [.Subscript (.Name nm p1) b tpos] e pos :: rest) sl R := by
  obtain ⟨te, ge, se⟩ := hx
  obtain ⟨tb, gb, sb⟩ := hy
  refine ⟨tSeq (sDPut (tVar i) tb te) (rB c rest), fun X hX => pss_cons (ps_dput (by have := hX.rm.units; omega) (nmx.pe hX) (gb X hX) (ge X hX) (hsw _)) (ps_rB hX), fun S H σ I D q => ?_⟩
  refine se S H σ I _ fun v S1 H1 f2 I1 a1 x1 nd1 n1 => ?_
  obtain ⟨v1, hv1, -, -, -⟩ := I1.prv hs
  refine ⟨v1, hv1, sb S1 H1 σ I1 _ fun w S2 H2 I2 a2 x2 _ => ?_⟩
  have up : ∀ b ∈ f2, H2 b = H1 b ∧ S2 b = none := fun b m => by
    obtain ⟨u, eu, nu⟩ := x1.dom b m
    obtain ⟨z1, z2, z3, z4⟩ := n1 b m
    exact ⟨(a2.k b u eu (Hard.nt nu) z3).trans eu.symm, a2.notS eu z1⟩
  have x2' := x1.ext a2.s fun b m => (up b m).1
  obtain ⟨v2, hv2, tp2, nd2, n2⟩ := I2.prv hs
  rw [hv1] at hv2
  cases hv2
  obtain ⟨l, xs, f, rfl, rfl, e4, t4⟩ := trp_dct tp2
  cases tr_key x2
  have hnone := trpk_none t4 hk
  have hput : putK xs k v = xs ++ [(k, v)] := by
    unfold putK
    rw [valV_any, hnone]; rfl
  refine ⟨l, _, rfl, .inl ⟨xs, k, e4, rfl, by rw [trpk_len t4, sizeLine_eq]; omega, rfl⟩, ?_⟩
  rw [hput]
  have nin : ∀ a ∈ f2, a ∉ l :: f := fun a m z => (n1 a m).2.2.1 ⟨i, _, _, hs, hv1, fpS_prv.mpr z⟩
  have hlf : l ∉ f := (List.nodup_cons.mp nd2).1
  have hl2 : l ∉ f2 := fun m => nin l m List.mem_cons_self
  have ndn : (l :: (f ++ f2)).Nodup := by
    refine List.nodup_cons.mpr ⟨fun m => (List.mem_append.mp m).elim hlf hl2, List.nodup_append.mpr ⟨(List.nodup_cons.mp nd2).2, nd1, fun a ha b hb e => ?_⟩⟩
    subst e
    exact nin a hb (List.mem_cons_of_mem _ ha)
  have tr2 : TrP c.K S2 (upd H2 l (.dK (xs ++ [(k, v)]))) (l :: (f ++ f2)) (.ref l) (.dct (kvs ++ [(k, t)])) :=
    .dct upd_same (trpk_snoc (x2'.ext (.refl _) fun a m => upd_ne fun (z : a = l) => hl2 (by rw [← z]; exact m)) (TrPk.ext (.refl _) t4 fun a m => upd_ne fun (z : a = l) => hlf (by rw [← z]; exact m)))
  refine (h3 (l :: (f ++ f2))).rr S2 _ σ (I2.prvW hs hv1 List.mem_cons_self (fun a m => ?_) tr2 ndn) D (q.up (a1.s.trans a2.s))
  rcases List.mem_cons.mp m with rfl | m
  · exact .inl List.mem_cons_self
  · rcases List.mem_append.mp m with m | m
    · exact .inl (List.mem_cons_of_mem _ m)
    · exact .inr ⟨(up a m).2, (n1 a m).2.1, fun z => (n1 a m).2.2.1 (a2.w a z)⟩
/-- d[k].append(e) -/
theorem go_appKey (i : Nat) (hb : EV c B b sl true (.st (keyD k)) sl) (hn : getT kvs k = some (.ls ds)) (hnd : (kvs.map (·.1)).Nodup) (ha : EV c B e sl true (.st d) sl) (h : GO c B rest (sl.set i (.prv (.dct (setT kvs k (.ls (ds ++ [d])))) fp)) R) (hl : ds.length ≤ 1000000) (hs : sl[i]? = some (.prv (.dct kvs) fp) := by rfl) (nmx : Nm c i nm := by exact ⟨rfl, by first | exact .inl rfl | exact .inr (.inl rfl) | exact .inr (.inr rfl), by decide, by decide⟩) (hsl : NoSl b := by exact fun _ _ => rfl) (mc : Mc1 (.Subscript (.Name nm p1) b p4) "append" e p2 p3 := by exact ⟨fun _ => rfl, fun _ => rfl, rfl, fun _ => rfl⟩) :
    GO c B (.Expr (.Call (.Attribute (.Subscript (.Name nm p1) b p4) "append" p2) [e] [] p3) pos :: rest) sl R := by
  obtain ⟨tx, gx, sx⟩ := hb
  obtain ⟨tb, gb, sb⟩ := av_cons ha (av_nil (sl := sl)) rfl mc.st
  refine ⟨tSeq (tDrop (tBM c.K "list" rAppend (tDGet (tVar i) tx) tb)) (rB c rest), fun X hX => pss_cons (ps_expr (by have := pe_bm PySem.F.plainAttrs_list PySem.F.slot_list_append PySem.F.type_list_append mt_append (pe_dget (pos := p4) (by have := hX.rm.units; omega) (nmx.pe (pos := p1) hX) (gx X hX) hsl) (gb X hX) (mc.base _) (mc.few _) mc.line (mc.st _) (by rfl); rw [hX.hK] at this; exact this) (by rfl)) (ps_rB hX), fun S H σ I D q => ?_⟩
  obtain ⟨v, hv, _, _, _⟩ := I.prv hs
  refine ⟨v, hv, sx S H σ I _ fun w S1 H1 I1 a1 x1 _ => ?_⟩
  obtain ⟨v1, hv1, tp1, nd1, n1⟩ := I1.prv hs
  rw [hv] at hv1
  cases hv1
  obtain ⟨l, xs, f, rfl, rfl, e0, t0⟩ := trp_dct tp1
  cases tr_key x1
  obtain ⟨y, g0, g, g1, ey, eg, tg, _⟩ := trpk_split t0 hn hnd
  refine ⟨l, y, rfl, .inl ⟨xs, k, .inl e0, rfl, ey.symm⟩, ?_⟩
  obtain ⟨m, zs, rfl, rfl, em, tm⟩ := trp_ls tg
  refine ⟨.inl ⟨rfl, zs, .inl (.inl em)⟩, sb S1 H1 σ I1 _ fun ws S2 H2 I2 a2 x2 => ?_⟩
  obtain ⟨w2, rfl, hw⟩ := one_arg x2
  obtain ⟨v2, hv2, tp2, nd2, n2⟩ := I2.prv hs
  rw [hv] at hv2
  cases hv2
  obtain ⟨l2, xs2, f2, e2, e3, e4, t4⟩ := trp_dct tp2
  cases e2
  obtain ⟨-, rfl⟩ := List.cons.inj e3
  have e5 := a2.h rfl |>.st _ _ e0 (fun ps z => nomatch z)
  rw [e4] at e5
  cases e5
  obtain ⟨y2, k0, kg, k1', ey2, ek, tk, kk⟩ := trpk_split t4 hn hnd
  rw [ey] at ey2
  cases ey2
  obtain ⟨m2, zs2, e6, rfl, em2, tm2⟩ := trp_ls tk
  cases e6
  have hm : m ∈ f := by rw [ek]; simp
  have hlm : l ≠ m := fun z => (List.nodup_cons.mp nd2).1 (by rw [z]; exact hm)
  refine ⟨m, zs2, w2, rfl, rfl, em2, by rw [tm2.len, sizeLine_eq]; omega, ?_⟩
  have nd3 := (List.nodup_cons.mp nd2).2
  rw [ek] at nd3
  have nk0 : ∀ a ∈ k0, a ≠ m := fun a ha z => (List.nodup_append.mp nd3).2.2 a ha m (by simp) z
  have nk1 : ∀ a ∈ k1', a ≠ m := fun a ha z => by
    have := (List.nodup_append.mp nd3).2.1
    rw [List.singleton_append, List.nodup_cons] at this
    exact this.1 (by rw [← z]; exact ha)
  have tr2 := kk S2 (upd H2 m (.lst (zs2 ++ [w2]))) [m] (.ls (ds ++ [d])) (.refl _) (.ls upd_same (tm2.app (.one hw))) (fun a ha => upd_ne (nk0 a ha)) (fun a ha => upd_ne (nk1 a ha))
  exact h.rr S2 _ σ (I2.prvW hs hv (List.mem_cons_of_mem _ hm) (fun a m => .inl m) (.dct (by rw [upd_ne hlm]; exact e4) (by rw [ek]; exact tr2)) nd2) D (q.up (a1.s.trans a2.s))
end
end Mw

/-! NwZQ: abs(x), list(d). -/
namespace Mw
open PySem PySem.Spec L2
variable [Tb]
variable {c : CxD} {B : Bs} {a : Expr} {sl sl1 : List Sl} {p : Bool} {pos p1 : Pos} {i : Int}
theorem ev_abs (ha : EV c B a sl p (.st (.int i)) sl1) (hm : c.mg "abs" = none) (hg : c.sc.names.lookup ("abs" : Str) = some .globalImplicit := by rfl) (he : ∀ env, starEach [a] env = (false, eval a env) :: starEach [] env := by intro env; rfl) :
    EV c B (.Call (.Name "abs" p1) [a] [] pos) sl p (.st (.int (if i < 0 then -i else i))) sl1 :=
  ev_call1B (fun X hX => call_abs) (fun B σ sl S H v I hk Q q => ⟨i, by rw [tr_int hk], q.st I (.int _)⟩) ha hm (by decide +kernel) hg he
theorem prK_keys {K : PySem.W.Frag} {S S2 : Hp} : ∀ {xs : List (Key × V)} {kvs : List (Key × PyData)}, PrK K S xs kvs → Trs K S2 (xs.map fun kv => kV kv.1) (kvs.map fun p => keyD p.1)
  | _, _, .nil => .nil
  | p :: xs, q :: kvs, .cons h t => by
    refine .cons ?_ (prK_keys t)
    show Tr K S2 (kV p.1) (keyD q.1)
    rw [h.1]
    cases q.1 with
    | inl i => exact .int i
    | inr x => exact .str x
/-- list(d) -/
theorem ev_listD {kvs : List (Key × PyData)} (ha : EV c B a sl p (.st (dD kvs)) sl1) (hm : c.mg "list" = none) (hg : c.sc.names.lookup ("list" : Str) = some .globalImplicit := by rfl) (he : ∀ env, starEach [a] env = (false, eval a env) :: starEach [] env := by intro env; rfl) :
    EV c B (.Call (.Name "list" p1) [a] [] pos) sl p (.fr (.lst (kvs.map fun q => keyD q.1))) sl1 :=
  ev_call1T (fun X hX => call_listD hX.calm) (fun B σ sl S H v I hk Q q => by
    obtain ⟨l, xs, rfl, h1, h2⟩ := tr_dD hk
    exact ⟨l, xs, rfl, sam_rd (same_sam I.sh) dK_nt h1, fun b hb => q.fresh I hb (prK_keys h2)⟩) ha hm (by decide +kernel) hg he
end Mw

/-! NwZR: dicts gone through: keys, values, items; len, sorted, dict, list(d.items()), max, == {}. -/
namespace Mw
open PySem PySem.Spec L2 PyProof.Rows
variable [Tb]
section
variable {K : PySem.W.Frag} {B : Bs} {S H G : Hp} {σ : L2.St} {sl : List Sl} {v : V} {kvs : List (Key × PyData)} {xs : List (Key × V)} {d : Addr} {o : Obj}
theorem dD_lk (I : Stt K B S H σ sl) (h : Tr K S v (dD kvs)) : ∃ a o xs, v = .ref a ∧ S a = some (.frz o (.dK xs)) ∧ PrK K S xs kvs := by
  obtain ⟨a, xs, rfl, r, t⟩ := tr_dD h
  obtain ⟨o, e⟩ := I.snt.dk r
  exact ⟨a, o, xs, rfl, e, t⟩
theorem prK_at : ∀ {xs : List (Key × V)} {kvs : List (Key × PyData)} (i : Nat) {q : Key × PyData}, PrK K S xs kvs → kvs[i]? = some q → ∃ v, xs[i]? = some (q.1, v) ∧ Tr K S v q.2
  | _, _, _, _, .nil, e => by simp at e
  | p :: _, _, 0, _, .cons h t, e => by
    have e' := Option.some.inj e
    subst e'
    exact ⟨p.2, by rw [← h.1]; rfl, h.2⟩
  | p :: _, _, i + 1, _, .cons h t, e => prK_at i t e
theorem tr_kV (k : Key) : Tr K S (kV k) (keyD k) := by
  cases k with
  | inl i => exact .int i
  | inr x => exact .str x
theorem itk_ok (h : S d = some (.frz o (.dK xs))) (t : PrK K S xs kvs) : ItOk K (Itk d o xs) S G (kvs.map fun p => keyD p.1) := by
  intro S1 H1 s1 s2 _ i
  have e := s2 _ _ (s1 _ _ h)
  refine ⟨fun y hy => ?_, fun hl => ⟨e, by rw [prK_len t]; simpa using hl⟩⟩
  rw [List.getElem?_map] at hy
  obtain ⟨q, hq, rfl⟩ := Option.map_eq_some_iff.mp hy
  obtain ⟨w, hw, tw⟩ := prK_at i t hq
  refine ⟨⟨e, (List.getElem?_eq_some_iff.mp hw).1⟩, fun x H2 z => ?_⟩
  obtain ⟨rfl, k, v, e1, rfl⟩ := z
  rw [hw] at e1
  cases e1
  exact ⟨S1, .refl _, s2, .refl _, fun a o h1 h2 => (by rw [h1] at h2; cases h2), fun n => n, tr_kV _⟩
theorem itd_ok (h : S d = some (.frz o (.dK xs))) (t : PrK K S xs kvs) : ItOk K (Itd d o xs) S G (kvs.map fun p => p.2) := by
  intro S1 H1 s1 s2 _ i
  have e := s2 _ _ (s1 _ _ h)
  refine ⟨fun y hy => ?_, fun hl => ⟨e, by rw [prK_len t]; simpa using hl⟩⟩
  rw [List.getElem?_map] at hy
  obtain ⟨q, hq, rfl⟩ := Option.map_eq_some_iff.mp hy
  obtain ⟨w, hw, tw⟩ := prK_at i t hq
  refine ⟨⟨e, (List.getElem?_eq_some_iff.mp hw).1⟩, fun x H2 z => ?_⟩
  obtain ⟨rfl, k, e1⟩ := z
  rw [hw] at e1
  cases e1
  exact ⟨S1, .refl _, s2, .refl _, fun a o h1 h2 => (by rw [h1] at h2; cases h2), fun n => n, tw.mono s1⟩
/-- the pairs of a dict -/
def pairD (kvs : List (Key × PyData)) : List PyData := kvs.map fun p => .tuple [keyD p.1, p.2]
theorem iti_ok (h : S d = some (.frz o (.dK xs))) (t : PrK K S xs kvs) : ItOk K (Iti d o xs) S G (pairD kvs) := by
  intro S1 H1 s1 s2 _ i
  have e := s2 _ _ (s1 _ _ h)
  refine ⟨fun y hy => ?_, fun hl => ⟨e, by rw [prK_len t]; simpa [pairD] using hl⟩⟩
  unfold pairD at hy
  rw [List.getElem?_map] at hy
  obtain ⟨q, hq, rfl⟩ := Option.map_eq_some_iff.mp hy
  obtain ⟨w, hw, tw⟩ := prK_at i t hq
  refine ⟨⟨e, (List.getElem?_eq_some_iff.mp hw).1⟩, fun x H2 z => ?_⟩
  obtain ⟨T, k, v, e1, rfl, nT, rfl⟩ := z
  rw [hw] at e1
  cases e1
  have nS : S1 T = none := s2.free nT
  have ss : Same S1 (upd S1 T (.tup [kV q.1, w])) := same_new nS
  refine ⟨_, ss, fun b o e => ?_, same_new nT, fun b o h1 h2 => ?_, fun nt => noT_upd nt trivial, .tup (.inl (.inl upd_same)) (.cons (tr_kV _) (.cons (tw.mono (s1.trans ss)) .nil))⟩
  · by_cases eb : b = T
    · rw [eb, upd_same] at e ⊢; exact e
    · rw [upd_ne eb] at e ⊢; exact s2 _ _ e
  · by_cases eb : b = T
    · rw [eb]; exact nT
    · rw [upd_ne eb, h2] at h1; cases h1
end
section
variable {c : CxD} {B : Bs} {tg e a b : Expr} {es : List Expr} {sl sl1 sl2 : List Sl} {p q : Bool} {k1 k2 : Kd} {kvs : List (Key × PyData)} {pos p1 p2 apos cpos tpos : Pos} {kk : Nat} {R : Rt}
/-- for k in d -/
theorem ei_keys (h : EV c B e sl p (.st (dD kvs)) sl1) : EI c B tg e sl p (kvs.map fun q => keyD q.1) true sl1 := by
  obtain ⟨t, g, s⟩ := h
  refine ⟨iKeys t, fun X hX => pi_keys (g X hX), fun S H σ I R q => s S H σ I _ fun v S' H' I' a x _ => ?_⟩
  obtain ⟨d, o, xs, rfl, hd, t⟩ := dD_lk I' x
  exact ⟨d, o, rfl, .inl ⟨xs, I'.sh _ _ hd, q _ S' H' I' a (itk_ok hd t)⟩⟩
/-- for v in d.values() -/
theorem ei_vals (h : EV c B e sl p (.st (dD kvs)) sl1) (hbase : ∀ env, attributeBase e "values" env (eval e env) = eval e env := by intro _; rfl) (hline : (apos.endLine == cpos.line) = true := by rfl) : EI c B tg (.Call (.Attribute e "values" apos) [] [] cpos) sl p (kvs.map fun q => q.2) true sl1 := by
  obtain ⟨t, g, s⟩ := h
  refine ⟨iVals t, fun X hX => pi_values (g X hX) (hbase _) hline, fun S H σ I R q => s S H σ I _ fun v S' H' I' a x _ => ?_⟩
  obtain ⟨d, o, xs, rfl, hd, t⟩ := dD_lk I' x
  exact ⟨d, o, xs, rfl, I'.sh _ _ hd, q _ S' H' I' a (itd_ok hd t)⟩
/-- for k, v in d.items() -/
theorem ei_items (h : EV c B e sl p (.st (dD kvs)) sl1) (hbase : ∀ env, attributeBase e "items" env (eval e env) = eval e env := by intro _; rfl) (hline : (apos.endLine == cpos.line) = true := by rfl) : EI c B (.Tuple es kk tpos) (.Call (.Attribute e "items" apos) [] [] cpos) sl p (pairD kvs) true sl1 := by
  obtain ⟨t, g, s⟩ := h
  refine ⟨iItems t, fun X hX => pi_items (g X hX) (hbase _) hline, fun S H σ I R q => s S H σ I _ fun v S' H' I' a x _ => ?_⟩
  obtain ⟨d, o, xs, rfl, hd, t⟩ := dD_lk I' x
  exact ⟨d, o, xs, rfl, I'.sh _ _ hd, q _ S' H' I' a (iti_ok hd t)⟩
/-- a built-in of one dict -/
theorem ev_bD {x : Str} {id : String} {r : List V → Hp → VK → Prop} {k : Kd} (ha : EV c B e sl p k1 sl1) (hd : DcK sl1 k1 kvs) (cr : ∀ X, InCx c X → CallR X (.builtin id) r) (hs : ∀ B σ S H v, Stt c.K B S H σ sl1 → RdD c.K S H v kvs → ∀ Q, Nx c.K B σ sl1 S H k Q → r [v] H Q) (hm : c.mg x = none) (hv : bootBuiltins x = some (.builtin id))
    (hg : c.sc.names.lookup x = some .globalImplicit := by rfl) (he : ∀ env, starEach [e] env = (false, eval e env) :: starEach [] env := by intro env; rfl)
    (hn : x ≠ "__name__" := by decide) (h1 : (x == ("__debug__" : Str)) = false := by decide) : EV c B (.Call (.Name x p1) [e] [] pos) sl p k sl1 := by
  obtain ⟨ta, g2, s2⟩ := av_cons ha (av_nil (sl := sl1)) (by rfl) he
  refine ⟨tCB r ta, fun X hX => pe_callB (cr X hX) (hX.g x hg) (by rw [hX.hm]; exact hm) hv (g2 X hX) hn h1 (he _) rfl, fun S H σ I Q fn => s2 S H σ I _ fun vs S1 H1 I1 a1 x1 => ?_⟩
  obtain ⟨v, rfl, hv⟩ := one_arg x1
  exact hs B σ S1 H1 v I1 (hd.rd I1 hv) Q (Mw.fin fn a1 fun h => by rw [h]; rfl)
theorem ev_tD {x : Str} {id : String} {r : List V → Hp → VK → Prop} {k : Kd} (ha : EV c B e sl p k1 sl1) (hd : DcK sl1 k1 kvs) (cr : ∀ X, InCx c X → CallR X (.type id) r) (hs : ∀ B σ S H v, Stt c.K B S H σ sl1 → RdD c.K S H v kvs → ∀ Q, Nx c.K B σ sl1 S H k Q → r [v] H Q) (hm : c.mg x = none) (hv : bootBuiltins x = some (.type id))
    (hg : c.sc.names.lookup x = some .globalImplicit := by rfl) (he : ∀ env, starEach [e] env = (false, eval e env) :: starEach [] env := by intro env; rfl)
    (hn : x ≠ "__name__" := by decide) (h1 : (x == ("__debug__" : Str)) = false := by decide) : EV c B (.Call (.Name x p1) [e] [] pos) sl p k sl1 := by
  obtain ⟨ta, g2, s2⟩ := av_cons ha (av_nil (sl := sl1)) (by rfl) he
  refine ⟨tCB r ta, fun X hX => pe_callTy (cr X hX) (hX.g x hg) (by rw [hX.hm]; exact hm) hv (g2 X hX) hn h1 (he _) rfl, fun S H σ I Q fn => s2 S H σ I _ fun vs S1 H1 I1 a1 x1 => ?_⟩
  obtain ⟨v, rfl, hv⟩ := one_arg x1
  exact hs B σ S1 H1 v I1 (hd.rd I1 hv) Q (Mw.fin fn a1 fun h => by rw [h]; rfl)
theorem Nx.freshD {K : PySem.W.Frag} {S H : Hp} {σ : L2.St} {Q : VK} {l : Addr} {xs : List (Key × V)} (q : Nx K B σ sl S H (.fr (.dct kvs)) Q) (I : Stt K B S H σ sl) (hn : H l = none) (t : PrK K S xs kvs) : Q (.ref l) (upd H l (.dK xs)) := by
  obtain ⟨h1, h2, h3⟩ := I.notIn hn
  exact q _ S _ (I.laid hn) (.same (same_new hn)) ⟨l, rfl, h1, h2, ⟨xs, upd_same, t⟩, h3⟩ (fun l' e => by cases e; exact hn)
def rLenD : List V → Hp → VK → Prop := fun xs H Q => ∃ (a : Addr) (xs' : List (Key × V)), xs = [.ref a] ∧ Rd H a (.dK xs') ∧ Q (.int xs'.length) H
theorem cr_lenD {X : Cx} : CallR X (.builtin "len") rLenD := by
  intro pins s σ H xs us Q I r h
  obtain ⟨a, ys, rfl, ha, q⟩ := h
  obtain ⟨u, rfl, ru⟩ := vals1 r
  cases ru
  exact d_len I ha fun t s' I' => ⟨.int ys.length, H, I', ⟨t, rfl⟩, q⟩
/-- len(d) -/
theorem ev_lenD (ha : EV c B e sl p k1 sl1) (hm : c.mg "len" = none) (hd : DcK sl1 k1 kvs) (hg : c.sc.names.lookup ("len" : Str) = some .globalImplicit := by rfl) (he : ∀ env, starEach [e] env = (false, eval e env) :: starEach [] env := by intro env; rfl) :
    EV c B (.Call (.Name "len" p1) [e] [] pos) sl p (.st (.int (kvs.length : Int))) sl1 :=
  ev_bD ha hd (fun _ _ => cr_lenD) (fun B σ S H v I x Q q => by
    obtain ⟨a, xs, rfl, r, t⟩ := x
    refine ⟨a, xs, rfl, r, ?_⟩
    rw [prK_len t]
    exact q.st I (.int _)) hm (by decide +kernel) hg he
/-- dict(d) -/
theorem ev_dictD (ha : EV c B e sl p k1 sl1) (hm : c.mg "dict" = none) (hd : DcK sl1 k1 kvs) (hg : c.sc.names.lookup ("dict" : Str) = some .globalImplicit := by rfl) (he : ∀ env, starEach [e] env = (false, eval e env) :: starEach [] env := by intro env; rfl) :
    EV c B (.Call (.Name "dict" p1) [e] [] pos) sl p (.fr (.dct kvs)) sl1 :=
  ev_tD ha hd (fun _ _ => call_dictD) (fun B σ S H v I x Q q => by
    obtain ⟨a, xs, rfl, r, t⟩ := x
    exact ⟨a, xs, rfl, r, fun b hb => q.freshD I hb t⟩) hm (by decide +kernel) hg he
theorem prK_fst {K : PySem.W.Frag} {S : Hp} : ∀ {xs : List (Key × V)} {kvs : List (Key × PyData)}, PrK K S xs kvs → xs.map (·.1) = kvs.map (·.1)
  | _, _, .nil => rfl
  | _, _, .cons h t => by rw [List.map_cons, List.map_cons, h.1, prK_fst t]
/-- sorted(d), fewer than 64 whole numbers -/
theorem ev_sortedD {ns ys : List Int} (ha : EV c B e sl p k1 sl1) (hm : c.mg "sorted" = none) (hd : DcK sl1 k1 kvs) (hk : kvs.map (·.1) = ns.map Sum.inl) (h64 : ns.length < 64) (h1 : ys.Perm ns) (h2 : ys.Pairwise (· ≤ ·)) (hg : c.sc.names.lookup ("sorted" : Str) = some .globalImplicit := by rfl) (he : ∀ env, starEach [e] env = (false, eval e env) :: starEach [] env := by intro env; rfl) :
    EV c B (.Call (.Name "sorted" p1) [e] [] pos) sl p (.fr (.lst (nums ys))) sl1 :=
  ev_bD ha hd (fun X hX => call_sortedDI hX.calm) (fun B σ S H v I x Q q => by
    obtain ⟨a, xs, rfl, r, t⟩ := x
    refine ⟨a, xs, ns, rfl, r, (prK_fst t).trans hk, h64, fun zs b z1 z2 hb => ?_⟩
    rw [asc_one (z1.trans h1.symm) z2 h2]
    exact q.fresh I hb (trs_nums ys)) hm (by decide +kernel) hg he
def rMaxDK : List V → Hp → VK → Prop := fun vs H Q => ∃ (a : Addr) (xs : List (Key × V)) (ns : List Int), vs = [.ref a] ∧ Rd H a (.dK xs) ∧ xs.map (·.1) = ns.map Sum.inl ∧ 0 < ns.length ∧ ∀ m, m ∈ ns → (∀ y, y ∈ ns → y ≤ m) → Q (.int m) H
theorem cr_maxDK {X : Cx} (hc : X.calm = true) : CallR X (.builtin "max") rMaxDK := by
  intro pins s σ H vs us Q I r h
  obtain ⟨a, xs, ns, rfl, hx, hk, hne, q⟩ := h
  obtain ⟨u, rfl, ru⟩ := vals1 r
  cases ru
  obtain ⟨_, lo, ws, rel, dd⟩ := dk_rd I.hok hx
  obtain ⟨es, ep, raw, hsz, hent⟩ := Heap.DictOf.raw dd
  have hkn : ws.map (·.1) = ns.map Sum.inl := rel.keys.symm.trans hk
  have hl : ws.length = ns.length := by
    have e := congrArg List.length hkn
    rwa [List.length_map, List.length_map] at e
  have hn : es.size = ns.length := hsz.trans hl
  have hP : ∀ (i : Nat) (v : Value), (∃ hi : i < es.size, v = es[i].key) → ∃ t, v = .int (ns.getD i 0) t := fun i v ⟨hi, e⟩ => by
    have hi2 : i < ws.length := by omega
    obtain ⟨g1, _⟩ := hent i hi ws[i].1 ws[i].2 (List.getElem?_eq_getElem hi2)
    have e2 : (ws.map (·.1))[i]? = (ns.map Sum.inl)[i]? := by rw [hkn]
    rw [List.getElem?_map, List.getElem?_map, List.getElem?_eq_getElem hi2, List.getElem?_eq_getElem (show i < ns.length by omega)] at e2
    have e3 : ws[i].1 = Sum.inl ns[i] := Option.some.inj e2
    rw [e3] at g1
    rcases keyIs_shape (show keyIs (Sum.inl ns[i]) es[i].key = true from g1) with ⟨j, t, ek, ev⟩ | ⟨z, t, ek, _⟩
    · cases ek
      refine ⟨t, ?_⟩
      rw [e, ev, List.getD_eq_getElem?_getD, List.getElem?_eq_getElem (show i < ns.length by omega)]
      rfl
    · cases ek
  obtain ⟨o, ho, _⟩ := id raw
  have ha : a < s.heap.objs.size := Heap.lt_size ho
  refine call_max_walk (wpAny_pyIter_dict_raw lo raw ⟨s.heap.objs.size, [s.heap.objs.size, a], [s.heap.objs.size], es.size, _, _, fun i j => decide (ns.getD i 0 > ns.getD j 0), rfl, Walks.rawKeys (show X.A.in1.handled = none from I.ok.hd hc) s.heap.objs.size a (Nat.ne_of_lt ha) es ep, ⟨⟨_, Heap.get?_push_size _ rfl, rfl, rfl⟩, raw.at fun ob e => Heap.get?_push_of_some _ e⟩, fun b hb => ?_, by omega, CmpOf.ints_gt (fun i => ns.getD i 0) hP, fun v h' tk hv hk2 => ?_⟩)
  · show b < (s.heap.push _).objs.size
    rw [size_push']
    rcases List.mem_cons.mp hb with z | z
    · rw [z]; exact Nat.lt_succ_self _
    · rw [List.mem_singleton.mp z]; exact Nat.lt_succ_of_lt ha
  · obtain ⟨t, rfl⟩ := hP _ _ hv
    obtain ⟨m1, m2⟩ := argBest_gt (fun i => ns.getD i 0) (es.size - 1)
    refine ⟨.int _, H, I.kept (t' := tk) (fun b o e => hk2 b o (fun z => by rw [List.mem_singleton.mp z] at e; exact absurd (Heap.lt_size e) (Nat.lt_irrefl _)) (Heap.get?_push_of_some _ e)), ⟨t, rfl⟩, q _ (PySem.getD_mem (by have : argBest (fun i j => decide (ns.getD i 0 > ns.getD j 0)) (es.size - 1) ≤ es.size - 1 := m1; omega)) fun y hy => ?_⟩
    obtain ⟨j, hj, e⟩ := List.mem_iff_getElem.mp hy
    have z := m2 j (by omega)
    have e3 : ns.getD j 0 = y := by rw [List.getD_eq_getElem?_getD, List.getElem?_eq_getElem hj, ← e]; rfl
    have z' : ns.getD j 0 ≤ ns.getD (argBest (fun i j => decide (ns.getD i 0 > ns.getD j 0)) (es.size - 1)) 0 := z
    rw [e3] at z'
    exact z'
/-- max(d), whole numbers -/
theorem ev_maxD {ns : List Int} {m : Int} (ha : EV c B e sl p k1 sl1) (hm : c.mg "max" = none) (hd : DcK sl1 k1 kvs) (hk : kvs.map (·.1) = ns.map Sum.inl) (h1 : m ∈ ns) (h2 : ∀ y ∈ ns, y ≤ m) (hg : c.sc.names.lookup ("max" : Str) = some .globalImplicit := by rfl) (he : ∀ env, starEach [e] env = (false, eval e env) :: starEach [] env := by intro env; rfl) :
    EV c B (.Call (.Name "max" p1) [e] [] pos) sl p (.st (.int m)) sl1 :=
  ev_bD ha hd (fun X hX => cr_maxDK hX.calm) (fun B σ S H v I x Q q => by
    obtain ⟨a, xs, rfl, r, t⟩ := x
    refine ⟨a, xs, ns, rfl, r, (prK_fst t).trans hk, List.length_pos_of_mem h1, fun n n1 n2 => ?_⟩
    rw [Int.le_antisymm (h2 n n1) (n2 m h1)]
    exact q.st I (.int _)) hm (by decide +kernel) hg he
/-! ### d == {}, d != {} -/
def rD0 (neg : Bool) : R2 := fun x y H Q => ∃ a b xs, x = .ref a ∧ y = .ref b ∧ Rd H a (.dK xs) ∧ Rd H b (.dK []) ∧ Q (.bl (if neg then !xs.isEmpty else xs.isEmpty)) H
theorem emp_len {α : Type} (l : List α) : ((l.length == 0) && true) = l.isEmpty := by cases l <;> rfl
theorem op_eqD0 {X : Cx} (hu : X.A.units < cLine) : OpR X (compareOp .Eq) (rD0 false) := by
  intro pins s σ H x y v u Q I rx ry ⟨a, b, xs, ex, ey, ea, eb, q⟩
  subst ex ey
  cases rx; cases ry
  obtain ⟨_, la, va, ra, da⟩ := dk_rd I.hok ea
  obtain ⟨_, lb, vb, rb, db⟩ := dk_rd I.hok eb
  cases rb
  exact PySem.W.keq_eq (r := true) la lb da db hu (fun e => by cases va with | nil => exact .nil | cons _ _ => cases e) (fin_bl I q (by rw [List.length_nil, emp_len]; cases ra <;> rfl))
theorem op_neD0 {X : Cx} (hu : X.A.units < cLine) : OpR X (compareOp .NotEq) (rD0 true) := by
  intro pins s σ H x y v u Q I rx ry ⟨a, b, xs, ex, ey, ea, eb, q⟩
  subst ex ey
  cases rx; cases ry
  obtain ⟨_, la, va, ra, da⟩ := dk_rd I.hok ea
  obtain ⟨_, lb, vb, rb, db⟩ := dk_rd I.hok eb
  cases rb
  exact PySem.W.keq_ne (r := true) la lb da db hu (fun e => by cases va with | nil => exact .nil | cons _ _ => cases e) (fin_bl I q (by rw [List.length_nil, emp_len]; cases ra <;> rfl))
theorem prK_emp {K : PySem.W.Frag} {S : Hp} {xs : List (Key × V)} {kvs : List (Key × PyData)} (h : PrK K S xs kvs) : xs.isEmpty = kvs.isEmpty := by cases h <;> rfl
theorem cm_D0 {op : CmpOp} {neg : Bool} (ho : ∀ X, InCx c X → OpR X (compareOp op) (rD0 neg)) (hb2 : behindInMarks op b = false) (ha : EV c B a sl p k1 sl1) (hd : DcK sl1 k1 kvs) (hb : EV c B b sl1 q (.fr (.dct [])) sl1) : CM c B op a b sl (p && q) (if neg then !kvs.isEmpty else kvs.isEmpty) sl1 := by
  obtain ⟨ta, ga, sa⟩ := ha
  obtain ⟨tb, gb, sb⟩ := hb
  refine ⟨tOp (rD0 neg) ta tb, fun X pos hX => ⟨pe_cmpR (ho X hX) (ga X hX) (gb X hX) hb2, pt_cmpR (ho X hX) (ga X hX) (gb X hX) hb2⟩, fun S H σ I Q fn => ?_⟩
  refine sa S H σ I _ fun x S1 H1 I1 a1 x1 f1 => sb S1 H1 σ I1 _ fun y S2 H2 I2 a2 x2 f2 => ?_
  obtain ⟨l, xs, rfl, h1, h2⟩ := hd.rd I2 (x1.adv a2 (by rw [hd.firm, Bool.or_true]))
  obtain ⟨m, rfl, _, _, ⟨ys, e, ty⟩, _⟩ := x2
  cases ty
  refine ⟨l, m, xs, rfl, rfl, h1, .inl e, ?_⟩
  rw [prK_emp h2]
  exact fn _ S2 H2 I2 (a1.trans a2) (.bl _) trivial
/-- d == {} -/
theorem cm_eqD0 {p4 : Pos} (ha : EV c B a sl p k1 sl1) (hd : DcK sl1 k1 kvs) : CM c B .Eq a (.Dict [] [] p4) sl p kvs.isEmpty sl1 := by
  have h := cm_D0 (neg := false) (fun X hX => op_eqD0 (by have := hX.rm.units; omega)) (by with_unfolding_all rfl) ha hd (ev_dnew (pos := p4))
  rwa [Bool.and_true] at h
/-- d != {} -/
theorem cm_neD0 {p4 : Pos} (ha : EV c B a sl p k1 sl1) (hd : DcK sl1 k1 kvs) : CM c B .NotEq a (.Dict [] [] p4) sl p (!kvs.isEmpty) sl1 := by
  have h := cm_D0 (neg := true) (fun X hX => op_neD0 (by have := hX.rm.units; omega)) (by with_unfolding_all rfl) ha hd (ev_dnew (pos := p4))
  rwa [Bool.and_true] at h
/-! ### dict(xs) of pairs -/
def mergeD (kvs : List (Key × PyData)) : List (Key × PyData) := kvs.foldl (fun acc p => setK acc p.1 p.2) []
theorem prK_merge {K : PySem.W.Frag} {S : Hp} : ∀ {xs : List (Key × V)} {kvs : List (Key × PyData)} {ys : List (Key × V)} {acc : List (Key × PyData)}, PrK K S xs kvs → PrK K S ys acc → PrK K S (mergeK ys xs) (kvs.foldl (fun acc p => setK acc p.1 p.2) acc)
  | _, _, _, _, .nil, h => h
  | (k, v) :: xs, (k2, d) :: kvs, ys, acc, .cons h t, h0 => by
    obtain ⟨e, hv⟩ := h
    have e' : k = k2 := e
    subst e'
    exact prK_merge (xs := xs) (kvs := kvs) (ys := putK ys k v) (acc := setK acc k d) t (prK_set k hv h0)
theorem setK_new {kvs : List (Key × PyData)} {k : Key} {d : PyData} (h : getK kvs k = none) : setK kvs k d = kvs ++ [(k, d)] := by
  unfold setK
  rw [getK_any, h]
  rfl
theorem getK_none {k : Key} : ∀ {kvs : List (Key × PyData)}, k ∉ kvs.map (·.1) → getK kvs k = none
  | [], _ => rfl
  | p :: r, h => by
    rw [getK_neg fun e => h (by rw [← e]; exact List.mem_cons_self)]
    exact getK_none fun m => h (List.mem_cons_of_mem _ m)
theorem mergeD_go : ∀ {kvs acc : List (Key × PyData)}, ((acc ++ kvs).map (·.1)).Nodup → kvs.foldl (fun acc p => setK acc p.1 p.2) acc = acc ++ kvs
  | [], acc, _ => by simp
  | p :: r, acc, h => by
    show r.foldl _ (setK acc p.1 p.2) = _
    have h' : (((acc ++ [p]) ++ r).map (·.1)).Nodup := by rw [List.append_assoc]; exact h
    rw [setK_new (getK_none fun m => ?_), show acc ++ [(p.1, p.2)] = acc ++ [p] from rfl, mergeD_go h', List.append_assoc]
    · rfl
    · rw [List.map_append, List.map_cons] at h
      exact (List.nodup_append.mp h).2.2 _ m _ List.mem_cons_self rfl
theorem mergeD_nd {kvs : List (Key × PyData)} (h : (kvs.map (·.1)).Nodup) : mergeD kvs = kvs := mergeD_go (acc := []) h
theorem trs_pairs {K : PySem.W.Frag} {S H : Hp} (s : Same S H) : ∀ {vs : List V} {kvs : List (Key × PyData)}, Trs K S vs (pairD kvs) → ∃ (ps : List Addr) (xs : List (Key × V)), vs = ps.map V.ref ∧ Paired (fun p kv => SqT K H p [kV kv.1, kv.2]) ps xs ∧ PrK K S xs kvs
  | _, [], .nil => ⟨[], [], rfl, .nil, .nil⟩
  | _, (k, d) :: r, .cons h t => by
    obtain ⟨ps, xs, e, h1, h2⟩ := trs_pairs (kvs := r) s t
    obtain ⟨a, ys, e2, h3, h4⟩ := tr_tup h
    cases h4 with
    | @cons v1 vs1 _ _ g1 g2 =>
      cases g2 with
      | @cons v2 vs2 _ _ g3 g4 =>
        cases g4
        cases tr_key g1
        subst e e2
        exact ⟨a :: ps, (k, v2) :: xs, rfl, .cons ((same_sam s).sqt h3) h1, .cons ⟨rfl, g3⟩ h2⟩
/-- dict(xs), xs a list of pairs -/
theorem ev_dictP (ha : EV c B e sl p k1 sl1) (hm : c.mg "dict" = none) (hl : LsK k1 (pairD kvs)) (hg : c.sc.names.lookup ("dict" : Str) = some .globalImplicit := by rfl) (he : ∀ env, starEach [e] env = (false, eval e env) :: starEach [] env := by intro env; rfl) :
    EV c B (.Call (.Name "dict" p1) [e] [] pos) sl p (.fr (.dct (mergeD kvs))) sl1 :=
  ev_call1T (fun X hX => by have := call_dictP (X := X) hX.calm; rw [hX.hK] at this; exact this) (fun B σ sl S H v I hk Q q => by
    obtain ⟨l, xs, rfl, h1, t⟩ := hl.rd I hk
    obtain ⟨ps, ys, rfl, h2, h3⟩ := trs_pairs I.sh t
    exact ⟨l, ps, ys, rfl, h1, h2, fun b hb => q.freshD I hb (prK_merge h3 .nil)⟩) ha hm (by decide +kernel) hg he
end
/-! ### list(d.items()) -/
section
variable {X : Cx} {e : Expr} {te : TE} {p apos cpos pos : Pos}
def tLIt (te : TE) : TE := fun σ H Q => te σ H fun x H1 => ∃ (d : Addr) (kvs : List (Key × V)), x = .ref d ∧ Rd H1 d (.dK kvs) ∧
  ∀ (H' : Hp) (q : Addr) (ts : List Addr), (∀ b o, H1 b = some o → H' b = some o) → H1 q = none → (∀ t ∈ ts, H1 t = none) → q ∉ ts → H' q = some (.lst (ts.map V.ref)) → Paired (fun (t : Addr) (y : Key × V) => H' t = some (.tup [kV y.1, y.2])) ts kvs → Q (.ref q) H'
theorem pe_lit (hc : X.calm = true) (he : PE X e te) (hg : Gl X "list") (hm : X.mg "list" = none) (hbase : attributeBase e "items" X.env (eval e X.env) = eval e X.env) (hline : (apos.endLine == cpos.line) = true)
    (hs : starEach [.Call (.Attribute e "items" apos) [] [] cpos] X.env = (false, eval (.Call (.Attribute e "items" apos) [] [] cpos) X.env) :: starEach [] X.env) : PE X (.Call (.Name "list" p) [.Call (.Attribute e "items" apos) [] [] cpos] [] pos) (tLIt te) := by
  constructor
  intro pins s σ H Q I hq
  apply wpAny_Call_Name_kw
  apply ld_blt I hg hm (u := .type "list") (by decide +kernel)
  apply PyProof.Rows.callWith_type1 _ hs rfl
  rw [hs]
  apply Calls.spliced_cons
  apply wpAny_Call_method (T := "dict") (id := "dict.items") hbase rfl hline PySem.F.plainAttrs_dict PySem.F.slot_dict_items PySem.F.type_dict_items
  apply thn (he.run pins s σ H _ I hq)
  rintro u s1 ⟨x, H1, I1, rx, d, kvs, rfl, hd, q⟩
  cases rx
  obtain ⟨hz, hs0, vs, kv, hdo⟩ := dk_rd I1.hok hd
  obtain ⟨ep, hat⟩ := hdo.dictAt
  have I2 := I1.kept (t' := s1.toks) (h' := s1.heap.push { cls := .type "dict_items", data := .fields #[.ref d] }) fun b ob q => Heap.get?_push_of_some _ q
  constructor
  · exact hdo.typeIs
  constructor
  · exact hdo.mapOf.noDict
  have key : wpAny (model X.prog X.w) X.A (callWith cpos (.builtin "dict.items") [.ref d] [] []) (fun a s => wpAny (model X.prog X.w) X.A (spliced (backTo pos (starEach [] X.env))) (fun as s => wpAny (model X.prog X.w) X.A (call (.type "list") (a :: as)) (EP X pins σ Q) X.xe s) X.xe s) X.xe s1 := by
    apply method_meetsIn PySem.F.slot_dict_items PySem.F.entry_dict_items rfl
    apply PySem.evalArgs_none
    refine ⟨rfl, hdo.typeIs, PySem.F.args_dict_items_1 _, _, meets_dict_items (mixKind X.prog X.w) d hs0, ⟨vs, hdo⟩, Calls.spliced_nil ?_⟩
    refine PySem.W.kdx_call (kvs := vs) (knd := mixKind X.prog X.w) (ep := ep) (I1.ok.hd hc) ⟨_, Heap.get?_push_size _ rfl, rfl, rfl⟩ (hat.push _) (Nat.le_trans (Nat.le_of_eq (Paired.length kv).symm) hz) ?_
    intro h' tk acc c as hk hS hl hG hacc
    obtain ⟨H', k1, k2, k3, k4, k5, k6, J⟩ := LiI.items_laid (tk := tk) I2 hz kv hk hS hl hG hacc
    exact ⟨.ref _, H', J, rfl, q H' _ as k1 k2 k3 k4 k5 k6⟩
  exact key
end
section
variable {c : CxD} {B : Bs} {e : Expr} {sl sl1 : List Sl} {p : Bool} {kvs : List (Key × PyData)} {pos p1 apos cpos : Pos}
theorem paired_trs {K : PySem.W.Frag} {S : Hp} : ∀ {ts : List Addr} {xs : List (Key × V)} {kvs : List (Key × PyData)}, Paired (fun (t : Addr) (y : Key × V) => S t = some (.tup [kV y.1, y.2])) ts xs → PrK K S xs kvs → Trs K S (ts.map V.ref) (pairD kvs)
  | _, _, _, .nil, .nil => .nil
  | _, _, _, .cons h t, .cons h2 t2 => by
    refine .cons (.tup (.inl (.inl h)) (.cons ?_ (.cons h2.2 .nil))) (paired_trs t t2)
    rw [h2.1]
    exact tr_kV _
theorem paired_memL {α β : Type} {F : α → β → Prop} : ∀ {xs : List α} {ys : List β}, Paired F xs ys → ∀ {x : α}, x ∈ xs → ∃ y, F x y
  | _, _, .cons h t, x, hx => by
    rcases List.mem_cons.mp hx with e | hx
    · exact ⟨_, by rw [e]; exact h⟩
    · exact paired_memL t hx
theorem paired_impL {α β : Type} {F G : α → β → Prop} : ∀ {xs : List α} {ys : List β}, Paired F xs ys → (∀ x ∈ xs, ∀ y, F x y → G x y) → Paired G xs ys
  | _, _, .nil, _ => .nil
  | _, _, .cons h t, k => .cons (k _ List.mem_cons_self _ h) (paired_impL t fun x m => k x (List.mem_cons_of_mem _ m))
/-- list(d.items()), d a dict that stays -/
theorem ev_listIt (ha : EV c B e sl p (.st (dD kvs)) sl1) (hm : c.mg "list" = none) (hg : c.sc.names.lookup ("list" : Str) = some .globalImplicit := by rfl) (hbase : ∀ env, attributeBase e "items" env (eval e env) = eval e env := by intro _; rfl) (hline : (apos.endLine == cpos.line) = true := by rfl)
    (hs : ∀ env, starEach [.Call (.Attribute e "items" apos) [] [] cpos] env = (false, eval (.Call (.Attribute e "items" apos) [] [] cpos) env) :: starEach [] env := by intro _; rfl) :
    EV c B (.Call (.Name "list" p1) [.Call (.Attribute e "items" apos) [] [] cpos] [] pos) sl p (.fr (.lst (pairD kvs))) sl1 := by
  obtain ⟨te, ge, se⟩ := ha
  refine ⟨tLIt te, fun X hX => pe_lit hX.calm (ge X hX) (hX.gl hg) (by rw [hX.hm]; exact hm) (hbase _) hline (hs _), fun S H σ I Q fn => se S H σ I _ fun x S1 H1 I1 a1 x1 _ => ?_⟩
  obtain ⟨d, o, xs, rfl, hd, t⟩ := dD_lk I1 x1
  refine ⟨d, xs, rfl, .inr ⟨o, I1.sh _ _ hd⟩, fun H' l ts k1 k2 k3 k4 k5 k6 => ?_⟩
  have nS : ∀ b ∈ ts, S1 b = none := fun b m => I1.sh.free (k3 b m)
  have s1 := layS_ext (H := H') nS
  have nn : ∀ (b : Addr) (u : HO), layS S1 H' ts b = some u → S1 b = none → H1 b = none := fun b u e1 e2 => by
    by_cases m : b ∈ ts
    · exact k3 b m
    · rw [layS_out m, e2] at e1; cases e1
  have I2 : Stt c.K B (layS S1 H' ts) H' σ sl1 := I1.grow s1 k1 (fun b u e => by
    by_cases m : b ∈ ts
    · rw [layS_in m] at e; exact e
    · rw [layS_out m] at e; exact k1 _ _ (I1.sh _ _ e)) nn fun b u e => by
    by_cases m : b ∈ ts
    · rw [layS_in m] at e
      obtain ⟨y, hy⟩ := paired_memL k6 m
      rw [hy] at e; cases e; trivial
    · rw [layS_out m] at e; exact I1.snt b u e
  obtain ⟨w1, w2, w3⟩ := I1.notIn k2
  have a2 : Adv σ sl1 S1 H1 sl1 (layS S1 H' ts) H' true := ⟨s1, nn, fun b u e => ⟨u, k1 _ _ e⟩, fun b u e _ _ => k1 _ _ e, fun _ => same_sam k1, fun _ h => h⟩
  refine Mw.fin fn a1 (fun h => h) _ _ _ I2 a2 ⟨l, rfl, by rw [layS_out k4]; exact w1, w2, ⟨_, k5, ?_⟩, w3⟩ (fun l' e => by cases e; exact k2)
  refine paired_trs (paired_impL k6 fun b m y h => by rw [layS_in m]; exact h) ?_
  have go : ∀ {xs : List (Key × V)} {kvs : List (Key × PyData)}, PrK c.K S1 xs kvs → PrK c.K (layS S1 H' ts) xs kvs := by
    intro xs kvs t
    induction t with
    | nil => exact .nil
    | cons h t ih => exact .cons ⟨h.1, h.2.mono s1⟩ ih
  exact go t
end
end Mw

/-! NwZS: texts, by the lists of their signs. -/
namespace Mw
open PySem PySem.Spec L2 PyProof.Rows
/-- the text of these signs -/
def tx (l : List Nat) : Str := ⟨l.toArray⟩
abbrev dS (l : List Nat) : PyData := .str (tx l)
def dSs (ls : List (List Nat)) : List PyData := ls.map fun l => .str (tx l)
theorem tl_tx (l : List Nat) : TL.tl (tx l) = l := rfl
theorem tx_tl (x : Str) : tx (TL.tl x) = x := TL.ext_tl rfl
theorem tx_inj {x y : List Nat} (h : tx x = tx y) : x = y := congrArg TL.tl h
theorem tx_len (l : List Nat) : (tx l).length = l.length := rfl
theorem tx_app (x y : List Nat) : tx x ++ tx y = tx (x ++ y) := TL.ext_tl (by rw [TL.tl_append]; rfl)
theorem tx_cut (l : List Nat) (lo hi : Option Int) : cutS (tx l) lo hi = tx (cutD l lo hi) := rfl
/-- cut at each s -/
def splitL (s : Nat) (l : List Nat) : List (List Nat) := TL.spl [s] 0 [] l
theorem split_tx (l : List Nat) {s : Nat} (h : s < 256) : Txt.split (tx l) (tx [s]) = (splitL s l).map tx := by
  refine TL.map_tl_inj ?_
  have hk : (tx [s]).cps.all (· < 256) = true := by simp [tx, h]
  rw [TL.split_spl (tx l) (tx [s]) (by rw [tl_tx]; simp) (TL.kind_ok hk), List.map_map]
  show TL.spl [s] 0 [] l = (splitL s l).map _
  exact (List.map_id' _).symm
theorem join_tx (s : List Nat) (ls : List (List Nat)) : Txt.join (tx s) (ls.map tx) = tx (TL.joinL s ls) := by
  refine TL.ext_tl ?_
  rw [TL.join_eq, TL.tl_join, tl_tx, tl_tx, List.map_map]
  exact congrArg (TL.joinL s) (List.map_id' _)
/-- the signs of a whole number -/
def strI (i : Int) : List Nat := TL.tl (toString i : Str)
theorem tx_strI (i : Int) : tx (strI i) = (toString i : Str) := tx_tl _
section
variable {K : PySem.W.Frag} {S H : Hp}
theorem trs_dSs : ∀ (ls : List (List Nat)), Trs K S ((ls.map tx).map V.str) (dSs ls)
  | [] => .nil
  | l :: r => .cons (.str _) (trs_dSs r)
theorem trs_dSs_eq : ∀ {ls : List (List Nat)} {vs : List V}, Trs K S vs (dSs ls) → vs = (ls.map tx).map V.str
  | [], _, .nil => rfl
  | l :: r, _, .cons h t => by
    rw [trs_dSs_eq t, tr_str h]; rfl
theorem len_dSs (ls : List (List Nat)) : (dSs ls).length = ls.length := List.length_map ..
theorem dSs_get {ls : List (List Nat)} {i : Nat} {d : PyData} (h : (dSs ls)[i]? = some d) : ∃ l, ls[i]? = some l ∧ d = dS l := by
  unfold dSs at h
  rw [List.getElem?_map] at h
  obtain ⟨l, h1, h2⟩ := Option.map_eq_some_iff.mp h
  exact ⟨l, h1, h2.symm⟩
theorem get_dSs {ls : List (List Nat)} {i : Nat} {l : List Nat} (h : ls[i]? = some l) : (dSs ls)[i]? = some (dS l) := by
  unfold dSs; rw [List.getElem?_map, h]; rfl
theorem dSs_app (a b : List (List Nat)) : dSs a ++ dSs b = dSs (a ++ b) := (List.map_append ..).symm
theorem dSs_take (a : List (List Nat)) (n : Nat) : (dSs a).take n = dSs (a.take n) := (List.map_take ..).symm
theorem dSs_drop (a : List (List Nat)) (n : Nat) : (dSs a).drop n = dSs (a.drop n) := (List.map_drop ..).symm
theorem its_ok {G : Hp} (l : List Nat) : ItOk K (Its (tx l)) S G (l.map fun c => dS [c]) := by
  intro S1 H1 s1 s2 _ i
  have hl : (tx l).cps.size = l.length := by simp [tx]
  have hg : (tx l).cps[i]? = l[i]? := by show l.toArray[i]? = l[i]?; simp
  refine ⟨fun d hd => ?_, fun hle => by show (tx l).cps.size ≤ i; rw [hl]; simpa using hle⟩
  rw [List.getElem?_map] at hd
  obtain ⟨y, hy, rfl⟩ := Option.map_eq_some_iff.mp hd
  refine ⟨by show i < (tx l).cps.size; rw [hl]; exact (List.getElem?_eq_some_iff.mp hy).1, fun x H2 z => ?_⟩
  obtain ⟨rfl, e, e1, rfl⟩ := z
  rw [hg, hy] at e1
  cases e1
  exact ⟨S1, .refl _, s2, .refl _, fun a o h1 h2 => (by rw [h1] at h2; cases h2), fun n => n, .str _⟩
end
theorem op_mulT {X : Cx} : OpR X (binaryOp .Mult) (fun x y H Q => ∃ (l : List Nat) (n : Nat), x = .str (tx l) ∧ y = .int n ∧ 2 ≤ n ∧ l ≠ [] ∧ l.length * n ≤ 1000000 ∧ Q (.str (tx (List.replicate n l).flatten)) H) := by
  intro pins s σ H x y v u Q I rx ry h
  obtain ⟨l, n, rfl, rfl, hn, hl, hz, q⟩ := h
  obtain ⟨t, rfl⟩ := rx
  obtain ⟨t', rfl⟩ := ry
  have hlen : (tx l).length = l.length := rfl
  have l0 : 0 < l.length := List.length_pos_iff.mpr hl
  have nb : n ≤ 1000000 := Nat.le_trans (Nat.le_mul_of_pos_left n l0) hz
  have n1 : ¬ (n : Int) < 1 := by omega
  have nu : ((n : Int) == 1 || (tx l).length == 0) = false := by
    rw [hlen, Bool.or_eq_false_iff]
    exact ⟨beq_eq_false_iff_ne.mpr (by omega), beq_eq_false_iff_ne.mpr (by omega)⟩
  have fl : ∀ (m : Nat) (acc : Array Nat), (List.replicate m l.toArray).foldl (· ++ ·) acc = acc ++ (List.replicate m l).flatten.toArray := by
    intro m
    induction m with
    | zero => intro acc; simp
    | succ m ih =>
      intro acc
      rw [List.replicate_succ, List.foldl_cons, ih, List.replicate_succ, List.flatten_cons]
      simp
  refine PySem.P.mul_str (by
    have h1 : decide ((n : Int) < -(2 ^ 63 : Int)) = false := decide_eq_false (by omega)
    have h2 : decide ((n : Int) ≥ 2 ^ 63) = false := decide_eq_false (by omega)
    rw [h1, h2]; rfl) (fun _ _ h => ?_) (fun _ _ => ?_) ?_
  · have h3 : (2 ^ 63 - 1) / (n : Int) ≥ (2 ^ 63 - 1) / 1000000 := by
      have : (2 ^ 63 - 1 : Int) / 1000000 * n ≤ 2 ^ 63 - 1 := by omega
      exact Int.le_ediv_of_mul_le (by omega) this
    have h4 : l.length ≤ 1000000 := Nat.le_trans (Nat.le_mul_of_pos_right _ (by omega)) hz
    rw [hlen] at h
    omega
  · show Builtin.Str.tooLong (l.length * (n : Int).toNat) = false
    rw [Int.toNat_natCast]
    exact decide_eq_false (by rw [sizeLine_eq]; omega)
  · rw [if_neg n1, if_neg (by rw [nu]; exact Bool.false_ne_true), Int.toNat_natCast]
    have e : (⟨(List.replicate n (tx l).cps).foldl (· ++ ·) #[]⟩ : Str) = tx (List.replicate n l).flatten := by
      show (⟨(List.replicate n l.toArray).foldl (· ++ ·) #[]⟩ : Str) = _
      rw [fl]
      refine TL.ext_tl ?_
      simp [tx]
    rw [e]
    refine ⟨?_, ⟨.str _, H, I.tok _, ⟨_, rfl⟩, q⟩⟩
    rw [tx_len]
    have : (List.replicate n l).flatten.length = n * l.length := by simp
    rw [this, sizeLine_eq, Nat.mul_comm]; omega
variable [Tb]
section
variable {c : CxD} {B : Bs} {tg e a b : Expr} {sl sl1 sl2 : List Sl} {p q z : Bool} {k1 : Kd} {pos p1 p2 p3 p4 : Pos} {x y : List Nat} {ls : List (List Nat)} {n : Nat} {R : Rt}
theorem ev_strT {i : Str} {j : Nat} (h : TL.tl i = x := by decide +kernel) : EV c B (.Constant (.str i) j pos) sl true (.st (dS x)) sl := by
  subst h
  show EV c B _ sl true (.st (.str (tx (TL.tl i)))) sl
  rw [tx_tl]
  exact ev_str
theorem cm_eqT (ha : EV c B a sl p (.st (dS x)) sl1) (hb : EV c B b sl1 q (.st (dS y)) sl2) : CM c B .Eq a b sl (p && q) (decide (x = y)) sl2 :=
  (cm_eqS ha hb).to (by by_cases e : x = y <;> simp [e]; exact fun h => e (tx_inj h))
theorem cm_neT (ha : EV c B a sl p (.st (dS x)) sl1) (hb : EV c B b sl1 q (.st (dS y)) sl2) : CM c B .NotEq a b sl (p && q) (!decide (x = y)) sl2 :=
  (cm_neS ha hb).to (by by_cases e : x = y <;> simp [e]; exact fun h => e (tx_inj h))
theorem ev_addT (ha : EV c B a sl p (.st (dS x)) sl1) (hb : EV c B b sl1 q (.st (dS y)) sl2) (hz : x.length + y.length ≤ 1000000) : EV c B (.BinOp a .Add b pos) sl (p && q) (.st (dS (x ++ y))) sl2 :=
  ev_bin (k1 := .st (dS x)) (k2 := .st (dS y)) (fun _ _ => op_add_str) (fun B σ sl S H v w I hv hw Q q => ⟨tx x, tx y, tr_str hv, tr_str hw, by rw [tx_len, tx_len, sizeLine_eq]; omega, by rw [tx_app]; exact q.st I (.str _)⟩) ha hb (by simp [Kd.firm])
theorem ev_mulT (ha : EV c B a sl p (.st (dS x)) sl1) (hb : EV c B b sl1 q (.st (.int (n : Int))) sl2) (h2 : 2 ≤ n) (hx : x ≠ []) (hz : x.length * n ≤ 1000000) : EV c B (.BinOp a .Mult b pos) sl (p && q) (.st (dS (List.replicate n x).flatten)) sl2 :=
  ev_bin (k1 := .st (dS x)) (k2 := .st (.int (n : Int))) (fun _ _ => op_mulT) (fun B σ sl S H v w I hv hw Q q => ⟨x, n, tr_str hv, tr_int hw, h2, hx, hz, q.st I (.str _)⟩) ha hb (by simp [Kd.firm])
theorem ev_lenT (ha : EV c B e sl p (.st (dS x)) sl1) (hm : c.mg "len" = none) (hz : x.length ≤ 1000000) (hg : c.sc.names.lookup ("len" : Str) = some .globalImplicit := by rfl) (he : ∀ env, starEach [e] env = (false, eval e env) :: starEach [] env := by intro env; rfl) :
    EV c B (.Call (.Name "len" p1) [e] [] pos) sl p (.st (.int (x.length : Int))) sl1 :=
  ev_call1B (k1 := .st (dS x)) (fun _ _ => call_len_str) (fun B σ sl S H v I hk Q q => ⟨tx x, by rw [tr_str hk], by rw [tx_len, sizeLine_eq]; omega, q.st I (.int _)⟩) ha hm (by decide +kernel) hg he
/-- str(i) -/
theorem ev_strI {i : Int} (ha : EV c B e sl p (.st (.int i)) sl1) (hm : c.mg "str" = none) (hz : i.natAbs < 2 ^ 1900) (hg : c.sc.names.lookup ("str" : Str) = some .globalImplicit := by rfl) (he : ∀ env, starEach [e] env = (false, eval e env) :: starEach [] env := by intro env; rfl) :
    EV c B (.Call (.Name "str" p1) [e] [] pos) sl p (.st (dS (strI i))) sl1 :=
  ev_call1T (k1 := .st (.int i)) (fun _ _ => call_str_int) (fun B σ sl S H v I hk Q q => ⟨i, by rw [tr_int hk], by
    by_cases h0 : i.natAbs = 0
    · rw [h0]; decide
    · have := (Nat.log2_lt h0).mpr hz
      omega, by rw [← tx_strI]; exact q.st I (.str _)⟩) ha hm (by decide +kernel) hg he
/-- int(text) -/
theorem ev_intT {i : Int} (ha : EV c B e sl p (.st (dS x)) sl1) (hm : c.mg "int" = none) (hi : PySem.intText? (tx x) = some i) (hz : x.length ≤ 640) (hg : c.sc.names.lookup ("int" : Str) = some .globalImplicit := by rfl) (he : ∀ env, starEach [e] env = (false, eval e env) :: starEach [] env := by intro env; rfl) :
    EV c B (.Call (.Name "int" p1) [e] [] pos) sl p (.st (.int i)) sl1 :=
  ev_call1T (k1 := .st (dS x)) (fun _ _ => call_int_str) (fun B σ sl S H v I hk Q q => ⟨tx x, i, by rw [tr_str hk], hi, by rw [tx_len]; exact hz, q.st I (.int _)⟩) ha hm (by decide +kernel) hg he
/-- one sign in a text -/
theorem cm_inT {s : Nat} (ha : EV c B a sl p (.st (dS [s])) sl1) (hb : EV c B b sl1 q (.st (dS y)) sl2) (hm : behindInMarks .In b = false := by with_unfolding_all rfl) : CM c B .In a b sl (p && q) (decide (s ∈ y)) sl2 :=
  cm_of (k1 := .st (dS [s])) (k2 := .st (dS y)) (fun _ _ => op_in_sign) hm (fun B σ sl S H v w I hv hw Q q => ⟨s, tx y, tr_str hv, tr_str hw, q.st I (.bl _)⟩) ha hb (by simp [Kd.firm])
theorem cm_notInT {s : Nat} (ha : EV c B a sl p (.st (dS [s])) sl1) (hb : EV c B b sl1 q (.st (dS y)) sl2) (hm : behindInMarks .NotIn b = false := by with_unfolding_all rfl) : CM c B .NotIn a b sl (p && q) (!decide (s ∈ y)) sl2 :=
  cm_of (k1 := .st (dS [s])) (k2 := .st (dS y)) (fun _ _ => op_notIn_sign) hm (fun B σ sl S H v w I hv hw Q q => ⟨s, tx y, tr_str hv, tr_str hw, q.st I (.bl _)⟩) ha hb (by simp [Kd.firm])
/-- for sign in text -/
theorem ei_text (h : EV c B e sl p (.st (dS x)) sl1) : EI c B tg e sl p (x.map fun s => dS [s]) z sl1 := by
  obtain ⟨t, g, s⟩ := h
  refine ⟨iStr t, fun X hX => pi_str (g X hX), fun S H σ I R q => s S H σ I _ fun v S' H' I' a x1 _ => ?_⟩
  exact ⟨tx x, tr_str x1, q _ S' H' I' a (by cases z <;> exact its_ok x)⟩
/-! ### slices of a text -/
theorem ev_sliceT {lo hi : Option Expr} {o u : Option Int} (ha : EV c B a sl p (.st (dS x)) sl1) (h1 : SO c B lo sl1 o) (h2 : SO c B hi sl1 u) (hz : x.length ≤ 1000000) : EV c B (.Subscript a (.Slice lo hi none p2) pos) sl p (.st (dS (cutD x o u))) sl1 := by
  obtain ⟨ta, ha, sa⟩ := ha
  obtain ⟨t1, g1, s1⟩ := h1
  obtain ⟨t2, g2, s2⟩ := h2
  refine ⟨tSl rSlS ta t1 t2, fun X hX => pe_slice sl_str (ha X hX) (g1 X hX) (g2 X hX), fun S H σ I Q fn => ?_⟩
  refine sa S H σ I _ fun v S1 H1 I1 a1 x1 f1 => s1 S1 H1 σ I1 _ fun S2 H2 I2 a2 => s2 S2 H2 σ I2 _ fun S3 H3 I3 a3 => ?_
  exact ⟨tx x, tr_str x1, by rw [tx_len, sizeLine_eq]; omega, fn _ S3 H3 I3 (((a1.trans a2).trans a3).weak fun h => by rw [h]; rfl) (.str _) trivial⟩
theorem ev_tFrom (ha : EV c B a sl p (.st (dS x)) sl1) (h2 : EV c B b sl1 true (.st (.int (n : Int))) sl1) (hz : x.length ≤ 1000000) : EV c B (.Subscript a (.Slice (some b) none none p2) pos) sl p (.st (dS (x.drop n))) sl1 := by
  have h := ev_sliceT (p2 := p2) (pos := pos) ha (so_some h2) so_none hz
  rwa [cut_from] at h
theorem ev_tTo (ha : EV c B a sl p (.st (dS x)) sl1) (h2 : EV c B b sl1 true (.st (.int (n : Int))) sl1) (hz : x.length ≤ 1000000) : EV c B (.Subscript a (.Slice none (some b) none p2) pos) sl p (.st (dS (x.take n))) sl1 := by
  have h := ev_sliceT (p2 := p2) (pos := pos) ha so_none (so_some h2) hz
  rwa [cut_to] at h
/-- text[:-1] -/
theorem ev_tInit {j : Nat} (ha : EV c B a sl p (.st (dS x)) sl1) (hz : x.length ≤ 1000000) : EV c B (.Subscript a (.Slice none (some (.UnaryOp .USub (.Constant (.int 1) j p1) p3)) none p2) pos) sl p (.st (dS x.dropLast)) sl1 := by
  have h := ev_sliceT (p2 := p2) (pos := pos) ha so_none (so_some (ev_neg (ev_int (i := 1) (j := j) (pos := p1)) (pos := p3))) hz
  rwa [cut_last] at h
theorem cut_lastOne {α : Type} (ds : List α) : cutD ds (some (-1)) none = ds.drop (ds.length - 1) := by
  unfold cutD
  have e1 : HT.sIx ds.length 0 (some (-1)) = ds.length - 1 := by
    show (if (-1 : Int) < 0 then ((-1 : Int) + (ds.length : Int)).toNat else min (-1 : Int).toNat ds.length) = _
    rw [if_pos (by decide)]; omega
  have e2 : HT.sIx ds.length ds.length none = ds.length := rfl
  rw [e1, e2]
  refine List.take_of_length_le ?_
  rw [List.length_drop]; omega
/-- text[-1:] -/
theorem ev_tEnd {j : Nat} (ha : EV c B a sl p (.st (dS x)) sl1) (hz : x.length ≤ 1000000) : EV c B (.Subscript a (.Slice (some (.UnaryOp .USub (.Constant (.int 1) j p1) p3)) none none p2) pos) sl p (.st (dS (x.drop (x.length - 1)))) sl1 := by
  have h := ev_sliceT (p2 := p2) (pos := pos) ha (so_some (ev_neg (ev_int (i := 1) (j := j) (pos := p1)) (pos := p3))) so_none hz
  rwa [cut_lastOne] at h
/-- text[i] -/
theorem ev_tIx {i : Int} {s : Nat} (ha : EV c B a sl p (.st (dS x)) sl1) (hb : EV c B b sl1 q (.st (.int i)) sl2) (hd : atI x i = some s) (hz : x.length ≤ 1000000) (hs : PlainIx b := by exact fun _ _ => rfl) : EV c B (.Subscript a b pos) sl (p && q) (.st (dS [s])) sl2 := by
  obtain ⟨ta, ha, sa⟩ := ha
  obtain ⟨tb, hb, sb⟩ := hb
  refine ⟨tOp rIxS ta tb, fun X hX => pe_ix ix_str (ha X hX) (hb X hX) hs, fun S H σ I Q fn => ?_⟩
  refine sa S H σ I _ fun v S1 H1 I1 a1 x1 f1 => sb S1 H1 σ I1 _ fun y S2 H2 I2 a2 x2 f2 => ?_
  exact ⟨tx x, i, s, tr_str x1, tr_int x2, by rw [tx_len, sizeLine_eq]; omega, hd, fn _ S2 H2 I2 (a1.trans a2) (.str _) trivial⟩
/-! ### split, join -/
theorem ev_split {s : Nat} (ha : EV c B a sl p (.st (dS x)) sl1) (hb : EV c B b sl1 q (.st (dS [s])) sl2) (h2 : s < 256) (hz : x.length ≤ 1000000) (mc : Mc1 a "split" b p2 p3 := by exact ⟨fun _ => rfl, fun _ => rfl, rfl, fun _ => rfl⟩) (hs : ∀ env, starEach [b] env = [(false, eval b env)] := by intro _; rfl) :
    EV c B (.Call (.Attribute a "split" p2) [b] [] p3) sl (p && q) (.fr (.lst (dSs (splitL s x)))) sl2 := by
  obtain ⟨ta, ga, sa⟩ := ha
  obtain ⟨tb, gb, sb⟩ := hb
  refine ⟨_, fun X hX => pe_split (ga X hX) (gb X hX) (hs _) (mc.base _) mc.line, fun S H σ I Q fn => ?_⟩
  refine sa S H σ I _ fun v S1 H1 I1 a1 x1 f1 => ⟨⟨tx x, tr_str x1⟩, sb S1 H1 σ I1 _ fun w S2 H2 I2 a2 x2 f2 => ?_⟩
  refine ⟨tx x, tx [s], tr_str x1, by rw [tr_str x2], rfl, by rw [tx_len, sizeLine_eq]; omega, fun l hl => ?_⟩
  rw [split_tx x h2]
  exact (Mw.fin fn (a1.trans a2) fun h => h).fresh I2 hl (trs_dSs _)
theorem ev_join (ha : EV c B a sl p (.st (dS x)) sl1) (hb : EV c B b sl1 q k1 sl2) (hl : LsK k1 (dSs ls)) (hz : (ls.map List.length).sum + ls.length * x.length ≤ 16777216) (mc : Mc1 a "join" b p2 p3 := by exact ⟨fun _ => rfl, fun _ => rfl, rfl, fun _ => rfl⟩) (hs : ∀ env, starEach [b] env = [(false, eval b env)] := by intro _; rfl) :
    EV c B (.Call (.Attribute a "join" p2) [b] [] p3) sl (p && q) (.st (dS (TL.joinL x ls))) sl2 := by
  obtain ⟨ta, ga, sa⟩ := ha
  obtain ⟨tb, gb, sb⟩ := hb
  refine ⟨_, fun X hX => by have := pe_join (ga X hX) (gb X hX) (hs _) (mc.base _) mc.line (apos := p2) (pos := p3); rw [hX.hK] at this; exact this, fun S H σ I Q fn => ?_⟩
  refine sa S H σ I _ fun v S1 H1 I1 a1 x1 f1 => ⟨⟨tx x, tr_str x1⟩, sb S1 H1 σ I1 _ fun w S2 H2 I2 a2 x2 f2 => ?_⟩
  obtain ⟨l, vs, rfl, h1, t⟩ := hl.rd I2 x2
  rw [trs_dSs_eq t] at h1
  refine ⟨tx x, l, ls.map tx, tr_str x1, rfl, .inl h1, ?_, ?_⟩
  · rw [List.map_map, List.length_map]; exact hz
  · rw [join_tx]
    exact fn _ S2 H2 I2 (a1.trans a2) (.str _) trivial
end
end Mw

/-! NwZT: more statements and calls: x = e that raises; texts of the module; calls by keywords alone that may refuse. -/
namespace Mw
open PySem PySem.Spec L2
variable [Tb]
section
variable {c : CxD} {B : Bs} {e a b : Expr} {es : List Expr} {rest : List Stmt} {sl sl1 sl2 : List Sl} {p q : Bool} {ks ks' : List Kd} {k : Kd} {pos p1 : Pos} {R : Rt} {z : Exn} {x : Str} {kvs : List (Key × PyData)}
/-- x = e, e raises -/
theorem go_setR (i : Nat) (h : XV c B e sl p z sl1) (hr : R.ex z sl1) (hN : c.N[i]? = some x := by rfl) (nd : c.N.Nodup := by assumption) (hx : c.sc.names.lookup x = some .local ∨ c.sc.names.lookup x = some .cell := by first | exact .inl rfl | exact .inr rfl)
    (hsw : ∀ X, InCx c X → swapsWith e (some (.Name x p1)) pos.line X.env = pure false := by intro _ _; rfl) : GO c B (.Assign [.Name x p1] e pos :: rest) sl R := by
  obtain ⟨te, ge, se⟩ := h
  refine go_cons (M := fun _ => False) ⟨tAsg te (gName i), fun X hX => ps_set (by rw [hX.hN]; exact nd) (by rw [hX.hN]; exact hN) (hX.loc hx).1 (ge X hX) (hsw X hX) (hX.loc hx).2, fun S H σ I D q => ?_⟩ fun _ h => h.elim
  exact se S H σ I (fun S' H' cls dx s I' ok => q.ex S' H' σ sl1 cls dx z s.s I' ok hr) _
/-- a text of the module -/
theorem ev_gstr {i : Str} (hm : ∃ t, c.mg x = some (.str i t)) (hg : c.sc.names.lookup x = some .globalImplicit := by rfl) (h1 : (x == ("__debug__" : Str)) = false := by decide) : EV c B (.Name x pos) sl true (.st (.str i)) sl := by
  obtain ⟨t, hm⟩ := hm
  exact ⟨_, fun X hX => pe_glob (v := .str i) (hX.g x hg) (by rw [hX.hm]; exact hm) ⟨t, rfl⟩ h1, fun S H σ I Q q => q _ S H I .refl (.str i) trivial⟩
theorem ev_gstrT {i : Str} {l : List Nat} (hm : ∃ t, c.mg x = some (.str i t)) (hl : TL.tl i = l := by decide +kernel) (hg : c.sc.names.lookup x = some .globalImplicit := by rfl) (h1 : (x == ("__debug__" : Str)) = false := by decide) : EV c B (.Name x pos) sl true (.st (dS l)) sl := by
  subst hl
  show EV c B _ sl true (.st (.str (tx (TL.tl i)))) sl
  rw [tx_tl]
  exact ev_gstr hm hg h1
/-- a new dict as a tree of one's own, and for good -/
theorem evp_frD (h : EV c B e sl p (.fr (.dct kvs)) sl1) : EVP c B e sl p (.dct (kvs.map fun q => (q.1, .st q.2))) sl1 := by
  obtain ⟨r, hr, hs⟩ := h
  refine ⟨r, hr, fun S H σ I Q q => hs S H σ I Q fun v S' H' I' a x f => ?_⟩
  obtain ⟨l, rfl, n, n0, ⟨xs, e, tr⟩, na⟩ := x
  have go : ∀ {xs : List (Key × V)} {kvs : List (Key × PyData)}, PrK c.K S' xs kvs → TrPk c.K S' H' [] xs (kvs.map fun q => (q.1, .st q.2)) := by
    intro xs kvs t
    induction t with
    | nil => exact .nil
    | @cons p q _ _ h t ih =>
      obtain ⟨k, v⟩ := p
      obtain ⟨e1, e2⟩ := h
      have e1' : k = q.1 := e1
      subst e1'
      exact .cons (f1 := []) (f2 := []) (.st e2) ih
  refine q _ S' H' [l] I' a (.dct e (go tr)) (by simp) fun b m => ?_
  rw [List.mem_singleton.mp m]
  exact ⟨n, n0, na, f l rfl⟩
theorem dk_st : ∀ kvs : List (Key × PyData), PTr.dk (kvs.map fun q => (q.1, .st q.2)) = kvs.map fun q => (keyD q.1, q.2)
  | [] => rfl
  | q :: r => by
    show (keyD q.1, q.2) :: PTr.dk (r.map _) = _
    rw [dk_st r]; rfl
theorem EV.fzD (h : EV c B e sl p (.fr (.dct kvs)) sl1) : EV c B e sl p (.st (dD kvs)) sl1 := EV.to (evp_frD h).fz (by show Kd.st (.dict (PTr.dk _)) = _; rw [dk_st]; rfl)
end
section
variable {c : CxD} {B : Bs} {e : Expr} {es : List Expr} {sl sl1 sl2 : List Sl} {p q : Bool} {ks ks' : List Kd} {pos p1 : Pos} {α : Type} {pre : α → Prop} {args : α → List Sl} {out : α → Out} {x : Str} {st : Stmt} {ps nms : List Str} {lv n : Nat} {kws : List Keyword} {ix : List Nat} {P : Program} {w : World} {K : PySem.W.Frag} {mg : Str → Option Value} {base : Heap} {z : Exn} {k : Kd}
/-- f(k = e, ..), refused -/
theorem xv_callKk (v : α) (F : DefK P w K mg base x st ps lv (Prm K mg (PureX pre args out))) (kb : KwOk x st ps nms 0 ix) (ha : KV c B kws sl p ks sl1) (hcs : ArgP (pick ks ix) (args v)) (hp : pre v) (hout : out v = .exn z) (hc : DefK P w K mg base x st ps lv (Prm K mg (PureX pre args out)) → c.DefK x st ps lv (Prm c.K c.mg (PureX pre args out)) := by exact fun h => h) (hlv : lv ≤ c.lv := by exact Nat.le_of_ble_eq_true rfl) (hg : c.sc.names.lookup x = some .globalImplicit := by rfl)
    (hlk : ks.length = kws.length := by rfl) (hln : kws.length = nms.length := by rfl) (hall : ∀ env, (backToKw pos (keywordEach kws env)).all (·.1.isSome) = true := by intro _; rfl) (hks : ∀ env, (backToKw pos (keywordEach kws env)).filterMap (·.1) = nms := by intro _; rfl)
    (hdb : (x == ("__debug__" : Str)) = false := by decide) (hpl : ∀ env, ((backTo pos (starEach [] env)).any (·.1) || (backToKw pos (keywordEach kws env)).any (·.1.isNone)) = false := by intro _; rfl) : XV c B (.Call (.Name x p1) [] kws pos) sl p z sl1 := by
  obtain ⟨f, fd, hm, hF, G⟩ := (hc F).ex
  obtain ⟨t, ht, hs⟩ := ha
  refine ⟨fun σ H Q => t σ H fun vs H1 => vs.length = kws.length ∧ Prm c.K c.mg (PureX pre args out) (pick vs ix) H1 Q fun cls d H' => c.W cls d σ H', fun X hX => pe_callGK0 (by rw [hX.hP, hX.hw, hX.hK, hX.hm, hX.hb]; exact G) (hX.rm.mono hlv) hX.gu hX.tk (hX.g x hg) (by rw [hX.hm]; exact hm) (by rw [hX.hK]; exact hF.kp) (by rw [hX.hK]; exact kb.kwb hF) (ht X hX) hln (hall _) (hks _) hdb (hpl _), fun S H σ I w Q => ?_⟩
  refine hs S H σ I _ fun vs S1 H1 I1 a1 x1 => ⟨by rw [x1.len]; exact hlk, S1, [], args v, .exn z, args v, ⟨v, hp, rfl, hout.symm, rfl⟩, hcs.stt I1 (x1.pick ix), fun cls dx S' H' J hv => ?_⟩
  obtain ⟨I2, a2⟩ := back0 I1 J
  exact w S' H' cls dx ((a1.trans a2).weak fun h => by rw [h]; rfl) I2 hv
/-- .. not refused -/
theorem ev_callKkO (v : α) (F : DefK P w K mg base x st ps lv (Prm K mg (PureX pre args out))) (kb : KwOk x st ps nms 0 ix) (ha : KV c B kws sl p ks sl1) (hcs : ArgP (pick ks ix) (args v)) (hp : pre v) (hout : out v = .ret k) (hk : okK k = true := by rfl) (hc : DefK P w K mg base x st ps lv (Prm K mg (PureX pre args out)) → c.DefK x st ps lv (Prm c.K c.mg (PureX pre args out)) := by exact fun h => h) (hlv : lv ≤ c.lv := by exact Nat.le_of_ble_eq_true rfl) (hg : c.sc.names.lookup x = some .globalImplicit := by rfl)
    (hlk : ks.length = kws.length := by rfl) (hln : kws.length = nms.length := by rfl) (hall : ∀ env, (backToKw pos (keywordEach kws env)).all (·.1.isSome) = true := by intro _; rfl) (hks : ∀ env, (backToKw pos (keywordEach kws env)).filterMap (·.1) = nms := by intro _; rfl)
    (hdb : (x == ("__debug__" : Str)) = false := by decide) (hpl : ∀ env, ((backTo pos (starEach [] env)).any (·.1) || (backToKw pos (keywordEach kws env)).any (·.1.isNone)) = false := by intro _; rfl) : EV c B (.Call (.Name x p1) [] kws pos) sl p k sl1 :=
  ev_callK (hc F) kb ha hcs ⟨v, hp, rfl, hout.symm, rfl⟩ (okK_h hk) hlv hg hlk hln hall hks hdb hpl
/-- an end that a lambda may have -/
def LamO (u : Out) : Prop := (∃ d, u = .ret (.st d)) ∨ ∃ z, u = .exn z
theorem LamO.ret {u : Out} (h : LamO u) : ∀ k, u = .ret k → ∃ d, k = .st d := fun k e => by
  rcases h with ⟨d, h⟩ | ⟨z, h⟩
  · rw [h] at e; cases e; exact ⟨d, rfl⟩
  · rw [h] at e; cases e
/-- lambda: f(e, ..) -/
theorem lamB_call (v : α) (F : DefOk P w K mg base x st ps lv (Prm K mg (PureX pre args out))) (ha : AV c B (e :: es) sl true ks sl) (hcs : ArgP ks (args v)) (hp : pre v) (ho : LamO (out v)) (hc : DefOk P w K mg base x st ps lv (Prm K mg (PureX pre args out)) → c.Def x st ps lv (Prm c.K c.mg (PureX pre args out)) := by exact fun h => h) (hlv : lv ≤ c.lv := by exact Nat.le_of_ble_eq_true rfl) (hg : c.sc.names.lookup x = some .globalImplicit := by rfl)
    (hdb : (x == ("__debug__" : Str)) = false := by decide) (he : ∀ env, starEach (e :: es) env = (false, eval e env) :: starEach es env := by intro env; rfl) (hpl : ∀ env, (backTo pos (starEach es env)).any (·.1) = false := by intro env; rfl) : LamB c B (.Call (.Name x p1) (e :: es) [] pos) sl (out v) := by
  rcases ho with ⟨d, h⟩ | ⟨z, h⟩
  · rw [h]; exact lamB_ret (ev_callO v F ha hcs hp h rfl hc hlv hg hdb he hpl)
  · rw [h]; exact lamB_exn (xv_call v F ha hcs hp h hc hlv hg hdb he hpl)
/-- lambda: f(k = e, ..) -/
theorem lamB_callK (v : α) (F : DefOk P w K mg base x st ps lv (Prm K mg (PureX pre args out))) (kb : KwOk x st ps nms 0 ix) (ha : KV c B kws sl true ks sl) (hcs : ArgP (pick ks ix) (args v)) (hp : pre v) (ho : LamO (out v)) (hc : DefK P w K mg base x st ps lv (Prm K mg (PureX pre args out)) → c.DefK x st ps lv (Prm c.K c.mg (PureX pre args out)) := by exact fun h => h) (hlv : lv ≤ c.lv := by exact Nat.le_of_ble_eq_true rfl) (hg : c.sc.names.lookup x = some .globalImplicit := by rfl)
    (hlk : ks.length = kws.length := by rfl) (hln : kws.length = nms.length := by rfl) (hall : ∀ env, (backToKw pos (keywordEach kws env)).all (·.1.isSome) = true := by intro _; rfl) (hks : ∀ env, (backToKw pos (keywordEach kws env)).filterMap (·.1) = nms := by intro _; rfl)
    (hdb : (x == ("__debug__" : Str)) = false := by decide) (hpl : ∀ env, ((backTo pos (starEach [] env)).any (·.1) || (backToKw pos (keywordEach kws env)).any (·.1.isNone)) = false := by intro _; rfl) : LamB c B (.Call (.Name x p1) [] kws pos) sl (out v) := by
  rcases ho with ⟨d, h⟩ | ⟨z, h⟩
  · rw [h]; exact lamB_ret (ev_callKkO v F.toK kb ha hcs hp h rfl hc hlv hg hlk hln hall hks hdb hpl)
  · rw [h]; exact lamB_exn (xv_callKk v F.toK kb ha hcs hp h hc hlv hg hlk hln hall hks hdb hpl)
end
/-! ### texts that may be compared: their signs are signs -/
def TOk (x : Str) : Prop := ∀ c ∈ TL.tl x, c < 0x110000
theorem TOk.ok {x : Str} (h : TOk x) : PyData.strOk x = true := by
  unfold PyData.strOk
  rw [Array.all_eq_true']
  intro c hc
  exact decide_eq_true (h c (Array.mem_toList_iff.mpr hc))
theorem tok_str (s : String) : TOk (Str.ofString s) := fun c hc => by
  rw [TL.tl_ofString] at hc
  obtain ⟨a, _, rfl⟩ := List.mem_map.mp hc
  have := a.valid
  rcases this with h | ⟨_, h⟩
  · show a.val.toNat < 0x110000
    have : a.val.toNat < 0xd800 := h
    omega
  · exact h
theorem tok_of {x : Str} (h : x.cps.toList.all (fun c => decide (c < 0x110000)) = true) : TOk x := fun c hc => of_decide_eq_true (List.all_eq_true.mp h c hc)
theorem TOk.app {x y : Str} (h : TOk x) (k : TOk y) : TOk (x ++ y) := fun c hc => by
  rw [TL.tl_append] at hc
  rcases List.mem_append.mp hc with z | z
  · exact h c z
  · exact k c z
theorem tok_tx {l : List Nat} (h : ∀ c ∈ l, c < 0x110000) : TOk (tx l) := h
theorem tok_from : ∀ (ts : List Str) (k : Nat) (acc : Str), TOk acc → (∀ t ∈ ts, TOk t) → TOk (PySem.textFrom k acc ts)
  | [], _, _, h, _ => h
  | t :: r, k, acc, h, ht => tok_from r (k + 1) _ ((h.app (by split <;> exact tok_str _)).app (ht t List.mem_cons_self)) fun x hx => ht x (List.mem_cons_of_mem _ hx)
theorem tok_join {s : Str} (hs : TOk s) : ∀ ts : List Str, (∀ t ∈ ts, TOk t) → TOk (Str.join s ts)
  | [], _ => fun c hc => nomatch hc
  | [t], h => h t List.mem_cons_self
  | t :: u :: r, h => ((h t List.mem_cons_self).app hs).app (tok_join hs (u :: r) fun x hx => h x (List.mem_cons_of_mem _ hx))
theorem tok_list {ts : List Str} (h : ∀ t ∈ ts, TOk t) : TOk (PySem.listText ts) := (tok_from ts 0 _ (tok_str _) h).app (tok_str _)
theorem tok_tuple {ts : List Str} (h : ∀ t ∈ ts, TOk t) : TOk (PySem.tupleText ts) := ((tok_str _).app (tok_join (tok_str _) ts h)).app (by split <;> exact tok_str _)
theorem shownAll_mem {x : Str} : ∀ {ds : List PyData}, x ∈ PyData.shownAll ds → ∃ d ∈ ds, x = d.shown
  | [], h => nomatch h
  | d :: r, h => by
    have h : x ∈ d.shown :: PyData.shownAll r := h
    rcases List.mem_cons.mp h with e | h
    · exact ⟨d, List.mem_cons_self, e⟩
    · obtain ⟨e, he, z⟩ := shownAll_mem h
      exact ⟨e, List.mem_cons_of_mem _ he, z⟩
/-- it is written with signs -/
def Wo (d : PyData) : Prop := TOk d.shown
theorem Wo.none : Wo .none := tok_str _
theorem Wo.bool {b : Bool} : Wo (.bool b) := by cases b <;> exact tok_str _
theorem Wo.int {i : Int} : Wo (.int i) := tok_str _
theorem Wo.list {ds : List PyData} (h : ∀ d ∈ ds, Wo d) : Wo (.list ds) := tok_list fun t ht => by
  obtain ⟨d, hd, rfl⟩ := shownAll_mem ht
  exact h d hd
theorem Wo.tuple {ds : List PyData} (h : ∀ d ∈ ds, Wo d) : Wo (.tuple ds) := tok_tuple fun t ht => by
  obtain ⟨d, hd, rfl⟩ := shownAll_mem ht
  exact h d hd
theorem Wo.nums (xs : List Int) : Wo (.list (Mw.nums xs)) := .list fun d hd => by
  obtain ⟨x, _, rfl⟩ := nums_mem hd
  exact .int
theorem Ce.str {x : Str} (h : TOk x) : Ce 0 (.str x) := ⟨h.ok, rfl, Nat.le_refl _⟩
section
variable {c : CxD} {B : Bs} {e a b : Expr} {sl : List Sl} {k : Kd} {pos : Pos} {t : Bool}
theorem WV.to {p : Bool} {sl1 : List Sl} {u : Bool} (h : WV c B e sl p t sl1) (e1 : t = u) : WV c B e sl p u sl1 := e1 ▸ h
/-- a or b or d, nothing is changed -/
theorem tv_or3 {d : Expr} {u v : Bool} (h : TV c B a sl true t sl) (h2 : t = false → TV c B b sl true u sl) (h3 : t = false → u = false → TV c B d sl true v sl) : TV c B (.BoolOp .Or [a, b, d] pos) sl true (t || (u || v)) sl :=
  WV.tt (wv_or h (fun z => wv_or (h2 z) (fun z2 => wv_or1 (h3 z z2)) fun _ => rfl) fun _ => rfl)
theorem tv_and3 {d : Expr} {u v : Bool} (h : TV c B a sl true t sl) (h2 : t = true → TV c B b sl true u sl) (h3 : t = true → u = true → TV c B d sl true v sl) : TV c B (.BoolOp .And [a, b, d] pos) sl true (t && (u && v)) sl :=
  WV.tt (wv_and h (fun z => wv_and (h2 z) (fun z2 => wv_and1 (h3 z z2)) fun _ => rfl) fun _ => rfl)
/-- a if e else b, nothing is changed -/
theorem ev_ifS (h : TV c B e sl true t sl) (h1 : t = true → EV c B a sl true k sl) (h2 : t = false → EV c B b sl true k sl) : EV c B (.IfExp e a b pos) sl true k sl := ev_if h h1 h2
end
end Mw

/-! NwZU: a dict that stays whose values are lists of one's own, one of them under a second name. -/
namespace Mw
open PySem PySem.Spec L2 PyProof.Rows
variable [Tb]
/-- keys with lists -/
def lsT (tl : List (Key × List PyData)) : List (Key × PTr) := tl.map fun p => (p.1, .ls p.2)
def lsD (tl : List (Key × List PyData)) : List (Key × PyData) := tl.map fun p => (p.1, .list p.2)
theorem lsT_len (tl : List (Key × List PyData)) : (lsT tl).length = tl.length := List.length_map _
theorem lsT_d : ∀ tl : List (Key × List PyData), PTr.dk (lsT tl) = (lsD tl).map fun p => (keyD p.1, p.2)
  | [] => rfl
  | p :: r => by
    show (keyD p.1, PyData.list p.2) :: PTr.dk (lsT r) = _
    rw [lsT_d r]; rfl
theorem lsT_snoc (tl : List (Key × List PyData)) (k : Key) (ds : List PyData) : lsT tl ++ [(k, .ls ds)] = lsT (tl ++ [(k, ds)]) := by unfold lsT; rw [List.map_append]; rfl
theorem trp_dcs {K : PySem.W.Frag} {S H : Hp} {fp : List Addr} {v : V} {ts : List (Key × PTr)} (h : TrP K S H fp v (.dcs ts)) : ∃ l o xs, v = .ref l ∧ S l = some (.frz o (.dK xs)) ∧ TrPk K S H fp xs ts :=
  match ts, h with
  | _, .dcs h t => ⟨_, _, _, rfl, h, t⟩
theorem trpk_keys {K : PySem.W.Frag} {S H : Hp} : ∀ {fp : List Addr} {xs : List (Key × V)} {ts : List (Key × PTr)}, TrPk K S H fp xs ts → xs.map (·.1) = ts.map (·.1)
  | _, _, _, .nil => rfl
  | _, _, _, .cons h t => congrArg (_ :: ·) (trpk_keys t)
theorem lsT_split {K : PySem.W.Frag} {S H : Hp} {k : Key} {ds : List PyData} : ∀ {tl : List (Key × List PyData)} {fp : List Addr} {xs : List (Key × V)} (n : Nat), TrPk K S H fp xs (lsT tl) → tl[n]? = some (k, ds) →
    ∃ l ys, fp[n]? = some l ∧ xs[n]? = some (k, .ref l) ∧ H l = some (.lst ys) ∧ Trs K S ys ds ∧ ∀ S' H' ds' ys', Same S S' → H' l = some (.lst ys') → Trs K S' ys' ds' → (∀ m a, m ≠ n → fp[m]? = some a → H' a = H a) → TrPk K S' H' fp xs (lsT (tl.set n (k, ds')))
  | [], _, _, _, _, e => by simp at e
  | p :: r, fp, xs, n, h, e => by
    obtain ⟨k1, es⟩ := p
    have h : TrPk K S H fp xs ((k1, .ls es) :: lsT r) := h
    cases h with
    | @cons _ v vs _ _ f1 f2 h1 t =>
      obtain ⟨l, ys, rfl, rfl, e0, ty⟩ := trp_ls h1
      cases n with
      | zero =>
        have e := Option.some.inj e
        cases e
        refine ⟨l, ys, rfl, rfl, e0, ty, fun S' H' ds' ys' s e1 t1 hm => ?_⟩
        exact TrPk.cons (f1 := [l]) (.ls e1 t1) (t.ext s fun a m => by
          obtain ⟨j, hj⟩ := List.getElem?_of_mem m
          exact hm (j + 1) a (by omega) hj)
      | succ n =>
        obtain ⟨l2, ys2, a1, a2, a3, a4, a5⟩ := lsT_split n t e
        refine ⟨l2, ys2, a1, a2, a3, a4, fun S' H' ds' ys' s e1 t1 hm => ?_⟩
        exact TrPk.cons (f1 := [l]) (.ls ((hm 0 l (by omega) rfl).trans e0) (ty.mono s)) (a5 S' H' ds' ys' s e1 t1 fun m a hne ha => hm (m + 1) a (by omega) ha)
theorem valV_at {k : Key} {v : V} : ∀ {xs : List (Key × V)} {n : Nat}, (xs.map (·.1)).Nodup → xs[n]? = some (k, v) → valV xs k = some v
  | [], _, _, e => by simp at e
  | p :: r, 0, _, e => by
    have e := Option.some.inj e
    subst e
    exact valV_pos rfl
  | p :: r, n + 1, nd, e => by
    have e : r[n]? = some (k, v) := e
    rw [valV_neg fun z => ?_]
    · exact valV_at (List.nodup_cons.mp nd).2 e
    · exact (List.nodup_cons.mp nd).1 (List.mem_map.mpr ⟨_, List.mem_of_getElem? e, z.symm⟩)
section
variable {c : CxD} {B : Bs} {tg e a b : Expr} {rest ss : List Stmt} {sl sl1 : List Sl} {p : Bool} {ts : List (Key × PTr)} {tl : List (Key × List PyData)} {k : Key} {d : PyData} {ds : List PyData} {t : PTr} {fp : List Addr} {pos p1 p2 p3 p4 tpos : Pos} {R : Rt} {nm x : Str}
/-- the dict is locked for good; its lists may still change -/
theorem go_lkP (i : Nat) (h : ∀ fp2, GO c B ss (sl.set i (.prv (.dcs ts) fp2)) R) (hs : sl[i]? = some (.prv (.dct ts) fp) := by rfl) : GO c B ss sl R := by
  refine ⟨tLk (rB c ss), fun X hX => pss_lk (ps_rB hX), fun S H σ I D q => ?_⟩
  obtain ⟨v, hv, tp, nd, n⟩ := I.prv hs
  obtain ⟨l, xs, f, rfl, rfl, e0, t0⟩ := trp_dct tp
  refine ⟨[l], fun a m => by rw [List.mem_singleton.mp m]; exact ⟨xs, e0⟩, by simp, fun od => ?_⟩
  have hi : i < sl.length := (List.getElem?_eq_some_iff.mp hs).1
  have el : lkH H [l] od l = some (.frz (od l) (.dK xs)) := lkH_in (by simp) e0
  have hl : ∀ a, a ∉ [l] → lkH H [l] od a = H a := fun a m => lkH_out m
  have no : ∀ a ∈ l :: f, ¬ OwnAt σ (sl.set i .no) a := fun a m ⟨j, z⟩ => by
    rcases fpAt_setS z with ⟨h1, f1⟩ | ⟨h1, _, _, f1⟩
    · exact h1 (I.dis j i a f1 ⟨_, _, hs, hv, fpS_prv.mpr m⟩)
    · exact fpS_no f1
  have I1 := (I.forget i).frzN (Hl := lkH H [l] od) (fp := [l]) (fun a m => by rw [List.mem_singleton.mp m]; exact ⟨(n l (by simp)).1, (n l (by simp)).2, no l (by simp)⟩) hl (fun a m => by rw [List.mem_singleton.mp m]; exact ⟨_, e0, by rintro (⟨ps, z⟩ | ⟨f, z⟩) <;> cases z⟩) (fun a m o e => by rw [List.mem_singleton.mp m, el] at e; cases e; trivial)
  have hlf : l ∉ f := (List.nodup_cons.mp nd).1
  have s1 : Same S (layS S (lkH H [l] od) [l]) := layS_ext (by intro a m; rw [List.mem_singleton.mp m]; exact (n l (by simp)).1)
  have ne : ∀ a ∈ f, a ≠ l := fun a m z => hlf (by rw [← z]; exact m)
  have tp2 : TrP c.K (layS S (lkH H [l] od) [l]) (lkH H [l] od) f (.ref l) (.dcs ts) := .dcs ((layS_in (by simp)).trans el) (t0.ext s1 fun a m => hl a (by rw [List.mem_singleton]; exact ne a m))
  have I2 := I1.put (i := i) (v := .ref l) (.prv (.dcs ts) f) ⟨_, rfl, tp2, (List.nodup_cons.mp nd).2, fun a m => ⟨by rw [layS_out (by rw [List.mem_singleton]; exact ne a m)]; exact (n a (by simp [m])).1, (n a (by simp [m])).2⟩⟩ (fun a m => no a (by simp [fpS_prv.mp m])) (by rw [List.getElem?_set_self hi]; rfl)
  have es : σ.set i (some (.ref l)) = σ := by
    obtain ⟨hi2, e⟩ := List.getElem?_eq_some_iff.mp hv
    rw [← e, List.set_getElem_self]
  rw [es, List.set_set] at I2
  exact (h f).rr _ _ σ I2 D (q.up s1)
theorem itk_keys {K : PySem.W.Frag} {S G : Hp} {d : Addr} {o : Obj} {xs : List (Key × V)} (h : S d = some (.frz o (.dK xs))) : ItOk K (Itk d o xs) S G (xs.map fun p => keyD p.1) := by
  intro S1 H1 s1 s2 _ i
  have e := s2 _ _ (s1 _ _ h)
  refine ⟨fun y hy => ?_, fun hl => ⟨e, by simpa using hl⟩⟩
  rw [List.getElem?_map] at hy
  obtain ⟨q, hq, rfl⟩ := Option.map_eq_some_iff.mp hy
  refine ⟨⟨e, (List.getElem?_eq_some_iff.mp hq).1⟩, fun x H2 z => ?_⟩
  obtain ⟨rfl, k, v, e1, rfl⟩ := z
  rw [hq] at e1
  cases e1
  exact ⟨S1, .refl _, s2, .refl _, fun a o h1 h2 => (by rw [h1] at h2; cases h2), fun n => n, tr_kV _⟩
/-- for k in d -/
theorem ei_keysS (i : Nat) (hs : sl[i]? = some (.prv (.dcs ts) fp) := by rfl) (n : Nm c i nm := by exact ⟨rfl, by first | exact .inl rfl | exact .inr (.inl rfl) | exact .inr (.inr rfl), by decide, by decide⟩) : EI c B tg (.Name nm pos) sl true (ts.map fun q => keyD q.1) true sl := by
  refine ⟨iKeys (tVar i), fun X hX => pi_keys (n.pe hX), fun S H σ I R q => ?_⟩
  obtain ⟨v, hv, tp, nd, n0⟩ := I.prv hs
  obtain ⟨l, o, xs, rfl, e0, t0⟩ := trp_dcs tp
  refine ⟨_, hv, l, o, rfl, .inl ⟨xs, I.sh _ _ e0, q _ S H I .refl ?_⟩⟩
  have e : (ts.map fun q => keyD q.1) = xs.map fun p => keyD p.1 := by
    have := congrArg (List.map keyD) (trpk_keys t0)
    rw [List.map_map, List.map_map] at this
    exact this.symm
  rw [e]
  exact itk_keys e0
/-- x = d[k], a second name for a list of one's own -/
theorem go_alias (i j n : Nat) (hy : EV c B b sl true (.st (keyD k)) sl) (hn : tl[n]? = some (k, ds)) (hnd : (tl.map (·.1)).Nodup) (h2 : ∀ l, fp[n]? = some l → GO c B rest (sl.set j (.raw (.ref l))) R) (hs : sl[i]? = some (.prv (.dcs (lsT tl)) fp) := by rfl) (nmx : Nm c i nm := by exact ⟨rfl, by first | exact .inl rfl | exact .inr (.inl rfl) | exact .inr (.inr rfl), by decide, by decide⟩) (hi : (sl[j]?).isSome = true := by rfl) (hN : c.N[j]? = some x := by rfl) (nd : c.N.Nodup := by assumption) (hx : c.sc.names.lookup x = some .local ∨ c.sc.names.lookup x = some .cell := by first | exact .inl rfl | exact .inr rfl) (hsl : NoSl b := by exact fun _ _ => rfl)
    (hsw : ∀ X, InCx c X → swapsWith (.Subscript (.Name nm p2) b p3) (some (.Name x p1)) pos.line X.env = pure false := by intro _ _; rfl) : GO c B (.Assign [.Name x p1] (.Subscript (.Name nm p2) b p3) pos :: rest) sl R := by
  obtain ⟨tx, gx, sx⟩ := hy
  refine ⟨tSeq (tAsg (tDGet (tVar i) tx) (gName j)) (rB c rest), fun X hX => pss_cons (ps_set (by rw [hX.hN]; exact nd) (by rw [hX.hN]; exact hN) (hX.loc hx).1 (pe_dget (pos := p3) (by have := hX.rm.units; omega) (nmx.pe (pos := p2) hX) (gx X hX) hsl) (hsw X hX) (hX.loc hx).2) (ps_rB hX), fun S H σ I D q => ?_⟩
  obtain ⟨v, hv, _, _, _⟩ := I.prv hs
  refine ⟨v, hv, sx S H σ I _ fun w S1 H1 I1 a1 x1 _ => ?_⟩
  obtain ⟨v1, hv1, tp1, nd1, n1⟩ := I1.prv hs
  rw [hv] at hv1
  cases hv1
  obtain ⟨r, o, xs, rfl, e0, t0⟩ := trp_dcs tp1
  cases tr_key x1
  obtain ⟨l, ys, z1, z2, z3, z4, _⟩ := lsT_split n t0 hn
  have hnd2 : (xs.map (·.1)).Nodup := by
    rw [trpk_keys t0]
    unfold lsT
    rw [List.map_map]
    exact hnd
  refine ⟨r, .ref l, rfl, .inl ⟨xs, k, .inr ⟨o, I1.sh _ _ e0⟩, rfl, (valV_at hnd2 z2).symm⟩, ?_⟩
  exact (h2 l z1).rr S1 H1 _ (I1.put (i := j) (.raw (.ref l)) rfl (fun a m => absurd m fpS_raw) hi) D (q.up a1.s)
/-- d[k], a list that may be read now -/
theorem ev_dixS (i n : Nat) (hy : EV c B b sl true (.st (keyD k)) sl) (hn : tl[n]? = some (k, ds)) (hnd : (tl.map (·.1)).Nodup) (hs : sl[i]? = some (.prv (.dcs (lsT tl)) fp) := by rfl) (nmx : Nm c i nm := by exact ⟨rfl, by first | exact .inl rfl | exact .inr (.inl rfl) | exact .inr (.inr rfl), by decide, by decide⟩) (hsl : NoSl b := by exact fun _ _ => rfl) : EV c B (.Subscript (.Name nm p2) b p3) sl true (.ls ds) sl := by
  obtain ⟨tx, gx, sx⟩ := hy
  refine ⟨tDGet (tVar i) tx, fun X hX => pe_dget (pos := p3) (by have := hX.rm.units; omega) (nmx.pe (pos := p2) hX) (gx X hX) hsl, fun S H σ I Q q => ?_⟩
  obtain ⟨v, hv, _, _, _⟩ := I.prv hs
  refine ⟨v, hv, sx S H σ I _ fun w S1 H1 I1 a1 x1 _ => ?_⟩
  obtain ⟨v1, hv1, tp1, nd1, n1⟩ := I1.prv hs
  rw [hv] at hv1
  cases hv1
  obtain ⟨r, o, xs, rfl, e0, t0⟩ := trp_dcs tp1
  cases tr_key x1
  obtain ⟨l, ys, z1, z2, z3, z4, _⟩ := lsT_split n t0 hn
  have hnd2 : (xs.map (·.1)).Nodup := by
    rw [trpk_keys t0]
    unfold lsT
    rw [List.map_map]
    exact hnd
  exact ⟨r, .ref l, rfl, .inl ⟨xs, k, .inr ⟨o, I1.sh _ _ e0⟩, rfl, (valV_at hnd2 z2).symm⟩, q _ S1 H1 I1 a1 ⟨l, ys, rfl, .inl (.inl z3), z4⟩ trivial⟩
/-- x.append(e), x a second name -/
theorem go_appRaw (i j n : Nat) {l : Addr} (ha : EV c B e sl true (.st d) sl) (hn : tl[n]? = some (k, ds)) (hl : fp[n]? = some l) (h : GO c B rest (sl.set i (.prv (.dcs (lsT (tl.set n (k, ds ++ [d])))) fp)) R) (hz : ds.length ≤ 1000000) (hs : sl[i]? = some (.prv (.dcs (lsT tl)) fp) := by rfl) (hj : sl[j]? = some (.raw (.ref l)) := by rfl) (nmx : Nm c j nm := by exact ⟨rfl, by first | exact .inl rfl | exact .inr (.inl rfl) | exact .inr (.inr rfl), by decide, by decide⟩) (mc : Mc1 (.Name nm p1) "append" e p2 p3 := by exact ⟨fun _ => rfl, fun _ => rfl, rfl, fun _ => rfl⟩) :
    GO c B (.Expr (.Call (.Attribute (.Name nm p1) "append" p2) [e] [] p3) pos :: rest) sl R := by
  obtain ⟨tb, gb, sb⟩ := av_cons ha (av_nil (sl := sl)) rfl mc.st
  refine ⟨tSeq (tDrop (tBM c.K "list" rAppend (tVar j) tb)) (rB c rest), fun X hX => pss_cons (ps_expr (by have := pe_bm PySem.F.plainAttrs_list PySem.F.slot_list_append PySem.F.type_list_append mt_append (nmx.pe hX) (gb X hX) (mc.base _) (mc.few _) mc.line (mc.st _) (by rfl); rw [hX.hK] at this; exact this) (by rfl)) (ps_rB hX), fun S H σ I D q => ?_⟩
  have hv := I.raw hj
  obtain ⟨v1, hv1, tp1, nd1, n1⟩ := I.prv hs
  obtain ⟨r, o, xs, rfl, e0, t0⟩ := trp_dcs tp1
  obtain ⟨l', ys, z1, z2, z3, z4, _⟩ := lsT_split n t0 hn
  rw [hl] at z1
  cases z1
  refine ⟨.ref l, hv, .inl ⟨rfl, ys, .inl (.inl z3)⟩, sb S H σ I _ fun ws S2 H2 I2 a2 x2 => ?_⟩
  obtain ⟨w, rfl, hw⟩ := one_arg x2
  obtain ⟨v2, hv2, tp2, nd2, n2⟩ := I2.prv hs
  rw [hv1] at hv2
  cases hv2
  obtain ⟨r2, o2, xs2, e2, e3, t2⟩ := trp_dcs tp2
  cases e2
  obtain ⟨l2, ys2, y1, y2, y3, y4, kk⟩ := lsT_split n t2 hn
  rw [hl] at y1
  cases y1
  refine ⟨l, ys2, w, rfl, rfl, y3, by rw [y4.len, sizeLine_eq]; omega, ?_⟩
  have tr2 : TrP c.K S2 (upd H2 l (.lst (ys2 ++ [w]))) fp (.ref r) (.dcs (lsT (tl.set n (k, ds ++ [d])))) := .dcs e3 (kk S2 _ (ds ++ [d]) (ys2 ++ [w]) (.refl _) upd_same (y4.app (.one hw)) fun m' a hne ha' => upd_ne fun z => hne <| (List.getElem?_inj (List.getElem?_eq_some_iff.mp ha').1 nd2 |>.mp (by rw [ha', hl, z])))
  exact h.rr S2 _ σ (I2.prvW hs hv1 (List.mem_of_getElem? hl) (fun a m => .inl m) tr2 nd2) D (q.up a2.s)
/-- x.pop(), x a second name -/
theorem go_popRaw (i j n : Nat) {l : Addr} (hn : tl[n]? = some (k, ds ++ [d])) (hl : fp[n]? = some l) (h : GO c B rest (sl.set i (.prv (.dcs (lsT (tl.set n (k, ds)))) fp)) R) (hs : sl[i]? = some (.prv (.dcs (lsT tl)) fp) := by rfl) (hj : sl[j]? = some (.raw (.ref l)) := by rfl) (nmx : Nm c j nm := by exact ⟨rfl, by first | exact .inl rfl | exact .inr (.inl rfl) | exact .inr (.inr rfl), by decide, by decide⟩) (mc : Mc0 (.Name nm p1) "pop" p2 p3 := by exact ⟨fun _ => rfl, rfl⟩) :
    GO c B (.Expr (.Call (.Attribute (.Name nm p1) "pop" p2) [] [] p3) pos :: rest) sl R := by
  refine ⟨tSeq (tDrop (tBM0 c.K "list" rPop (tVar j))) (rB c rest), fun X hX => pss_cons (ps_expr (by have := pe_bm0 PySem.F.plainAttrs_list PySem.F.slot_list_pop PySem.F.type_list_pop mt_pop (nmx.pe hX) (mc.base _) mc.line; rw [hX.hK] at this; exact this) (by rfl)) (ps_rB hX), fun S H σ I D q => ?_⟩
  have hv := I.raw hj
  obtain ⟨v1, hv1, tp1, nd1, n1⟩ := I.prv hs
  obtain ⟨r, o, xs, rfl, e0, t0⟩ := trp_dcs tp1
  obtain ⟨l', ys, z1, z2, z3, z4, kk⟩ := lsT_split n t0 hn
  rw [hl] at z1
  cases z1
  have hlen : ys.length = ds.length + 1 := by rw [z4.len, List.length_append]; rfl
  obtain ⟨y, hy⟩ : ∃ y, ys[ys.length - 1]? = some y := ⟨_, List.getElem?_eq_getElem (by omega)⟩
  refine ⟨.ref l, hv, .inl ⟨rfl, ys, .inl (.inl z3)⟩, l, ys, y, rfl, rfl, z3, hy, ?_⟩
  have td : Trs c.K S ys.dropLast ds := by
    have := z4.take ds.length
    rw [List.take_left] at this
    rw [List.dropLast_eq_take, hlen]
    exact this
  have tr2 : TrP c.K S (upd H l (.lst ys.dropLast)) fp (.ref r) (.dcs (lsT (tl.set n (k, ds)))) := .dcs e0 (kk S _ ds ys.dropLast (.refl _) upd_same td fun m' a hne ha' => upd_ne fun z => hne <| (List.getElem?_inj (List.getElem?_eq_some_iff.mp ha').1 nd1 |>.mp (by rw [ha', hl, z])))
  exact h.rr S _ σ (I.prvW hs hv1 (List.mem_of_getElem? hl) (fun a m => .inl m) tr2 nd1) D q
def prsT (ts : List (Key × PTr)) : List PyData := ts.map fun p => .tuple [keyD p.1, p.2.d]
theorem paired_trsT {K : PySem.W.Frag} {S H H' : Hp} (s : Same S H') : ∀ {f : List Addr} {as : List Addr} {xs : List (Key × V)} {ts : List (Key × PTr)}, Paired (fun (t : Addr) (y : Key × V) => H' t = some (.tup [kV y.1, y.2])) as xs → TrPk K S H f xs ts → (∀ a ∈ f, H' a = H a) → Trs K H' (as.map V.ref) (prsT ts)
  | _, _, _, _, .nil, .nil, _ => .nil
  | _, _, _, _, .cons h t, .cons h2 t2, e => .cons (.tup (.inl (.inl h)) (.cons (tr_kV _) (.cons (TrP.tr s h2 (app_all e).1) .nil))) (paired_trsT s t t2 (app_all e).2)
/-- list(d.items()), d a dict of one's own, as it is now -/
theorem ev_listItS {apos cpos : Pos} (i : Nat) (hm : c.mg "list" = none) (hs : sl[i]? = some (.prv (.dct ts) fp) := by rfl) (n : Nm c i nm := by exact ⟨rfl, by first | exact .inl rfl | exact .inr (.inl rfl) | exact .inr (.inr rfl), by decide, by decide⟩) (hg : c.sc.names.lookup ("list" : Str) = some .globalImplicit := by rfl) (hbase : ∀ env, attributeBase (.Name nm p2) "items" env (eval (.Name nm p2) env) = eval (.Name nm p2) env := by intro _; rfl) (hline : (apos.endLine == cpos.line) = true := by rfl)
    (hst : ∀ env, starEach [.Call (.Attribute (.Name nm p2) "items" apos) [] [] cpos] env = (false, eval (.Call (.Attribute (.Name nm p2) "items" apos) [] [] cpos) env) :: starEach [] env := by intro _; rfl) :
    EV c B (.Call (.Name "list" p1) [.Call (.Attribute (.Name nm p2) "items" apos) [] [] cpos] [] pos) sl true (.nw (.list (prsT ts))) sl := by
  refine ⟨tLIt (tVar i), fun X hX => pe_lit hX.calm (n.pe hX) (hX.gl hg) (by rw [hX.hm]; exact hm) (hbase _) hline (hst _), fun S H σ I Q fn => ?_⟩
  obtain ⟨v, hv, tp, nd, n0⟩ := I.prv hs
  obtain ⟨l, xs, f, rfl, rfl, e0, t0⟩ := trp_dct tp
  refine ⟨_, hv, l, xs, rfl, .inl e0, fun H' q as k1 k2 k3 k4 k5 k6 => ?_⟩
  have I2 : Stt c.K B S H' σ sl := I.grow (.refl S) k1 (I.sh.trans k1) (fun a o h1 h2 => by rw [h1] at h2; cases h2) I.snt
  refine fn _ S H' I2 (.same k1) ?_ trivial
  exact .lst (.inl (.inl k5)) (paired_trsT (I.sh.trans k1) k6 t0 fun a m => by
    obtain ⟨u, eu, _⟩ := tp.dom a (List.mem_cons_of_mem _ m)
    exact (k1 _ _ eu).trans eu.symm)
/-- a part of a tuple of one's own -/
theorem evm_ixT {i : Nat} {tts : List PTr} (n : Nat) (h : EVM c B a sl i (.tup tts)) (hb : EV c B b sl true (.st (.int (n : Nat))) sl) (hn : tts[n]? = some t) (hpx : PlainIx b := by exact fun _ _ => rfl) : EVM c B (.Subscript a b pos) sl i t := by
  obtain ⟨ta, ga, sa⟩ := h
  obtain ⟨tx, gx, sx⟩ := hb
  refine ⟨tOp (rIxT c.K) ta tx, fun X hX => pe_ix (by rw [← hX.hK]; exact ix_tup) (ga X hX) (gx X hX) hpx, fun S H σ I Q fn => ?_⟩
  refine sa S H σ I _ fun v S1 H1 f I1 a1 tp nd n1 => sx S1 H1 σ I1 _ fun w S2 H2 I2 a2 x2 _ => ?_
  have ag : ∀ a ∈ f, H2 a = H1 a := fun a m => by
    obtain ⟨u, eu, nu⟩ := tp.dom a m
    exact ((a2.h rfl).st _ _ eu (Hard.nt nu)).trans eu.symm
  have tp2 := tp.ext a2.s ag
  obtain ⟨l, xs, f0, rfl, rfl, e0, t0⟩ := trp_tup tp2
  obtain ⟨y, hy⟩ : ∃ y, xs[n]? = some y := by
    have := (List.getElem?_eq_some_iff.mp hn).1
    exact ⟨_, List.getElem?_eq_getElem (by rw [t0.len]; exact this)⟩
  refine ⟨l, xs, (n : Nat), y, rfl, tr_int x2, .inl (.inl e0), atI_nat hy, ?_⟩
  obtain ⟨g0, g, g1, eg, tg, _⟩ := t0.split n hy hn
  have sub : ∀ a ∈ g, a ∈ l :: f0 := fun a m => List.mem_cons_of_mem _ (by rw [eg]; simp [m])
  refine fn y S2 H2 g I2 (a1.trans a2) tg ?_ fun a m => ?_
  · have := (List.nodup_cons.mp nd).2
    rw [eg] at this
    exact (List.nodup_append.mp (List.nodup_append.mp this).2.1).1
  · obtain ⟨z1, z2, z3⟩ := n1 a (sub a m)
    obtain ⟨u, eu, _⟩ := tp.dom a (sub a m)
    exact ⟨a2.notS eu z1, z2, z3⟩
/-- d[k] = a part of the tree in slot j, which is given up -/
theorem go_dnewM (i j : Nat) {kvs : List (Key × PTr)} (hx : EVM c B e sl j t) (hy : EV c B b sl true (.st (keyD k)) sl) (hk : getT kvs k = none) (h3 : ∀ fp2, GO c B rest ((sl.set j .no).set i (.prv (.dct (kvs ++ [(k, t)])) fp2)) R) (hl : kvs.length ≤ 1000000) (hij : i ≠ j := by decide) (hs : sl[i]? = some (.prv (.dct kvs) fp) := by rfl) (nmx : Nm c i nm := by exact ⟨rfl, by first | exact .inl rfl | exact .inr (.inl rfl) | exact .inr (.inr rfl), by decide, by decide⟩)
    (hsw : ∀ env, swapsWith e (some (.Subscript (.Name nm p1) b tpos)) pos.line env = pure false := by intro _; rfl) : GO c B (.Assign [.Subscript (.Name nm p1) b tpos] e pos :: rest) sl R := by
  obtain ⟨te, ge, se⟩ := hx
  obtain ⟨tb, gb, sb⟩ := hy
  refine ⟨tSeq (sDPut (tVar i) tb te) (rB c rest), fun X hX => pss_cons (ps_dput (by have := hX.rm.units; omega) (nmx.pe hX) (gb X hX) (ge X hX) (hsw _)) (ps_rB hX), fun S H σ I D q => ?_⟩
  refine se S H σ I _ fun v S1 H1 f2 I1 a1 x1 nd1 n1 => ?_
  obtain ⟨v1, hv1, -, -, -⟩ := I1.prv hs
  refine ⟨v1, hv1, sb S1 H1 σ I1 _ fun w S2 H2 I2 a2 x2 _ => ?_⟩
  have up : ∀ b ∈ f2, H2 b = H1 b ∧ S2 b = none := fun b m => by
    obtain ⟨u, eu, nu⟩ := x1.dom b m
    exact ⟨((a2.h rfl).st b u eu (Hard.nt nu)).trans eu.symm, a2.notS eu (n1 b m).1⟩
  have x2' := x1.ext a2.s fun b m => (up b m).1
  have I3 := I2.forget j
  have hs3 : (sl.set j .no)[i]? = some (.prv (.dct kvs) fp) := by rw [List.getElem?_set_ne (Ne.symm hij)]; exact hs
  obtain ⟨v2, hv2, tp2, nd2, n2⟩ := I3.prv hs3
  rw [hv1] at hv2
  cases hv2
  obtain ⟨l, xs, f, rfl, rfl, e4, t4⟩ := trp_dct tp2
  cases tr_key x2
  have hnone := trpk_none t4 hk
  have hput : putK xs k v = xs ++ [(k, v)] := by
    unfold putK
    rw [valV_any, hnone]; rfl
  refine ⟨l, _, rfl, .inl ⟨xs, k, e4, rfl, by rw [trpk_len t4, sizeLine_eq]; omega, rfl⟩, ?_⟩
  rw [hput]
  have no : ∀ a ∈ f2, ¬ OwnAt σ (sl.set j .no) a := fun a m ⟨i2, z⟩ => by
    rcases fpAt_setS z with ⟨h1, g1⟩ | ⟨h1, _, _, g1⟩
    · exact h1 (I2.dis i2 j a g1 (n1 a m).2.2)
    · exact fpS_no g1
  have nin : ∀ a ∈ f2, a ∉ l :: f := fun a m z => no a m ⟨i, _, _, hs3, hv1, fpS_prv.mpr z⟩
  have hlf : l ∉ f := (List.nodup_cons.mp nd2).1
  have hl2 : l ∉ f2 := fun m => nin l m List.mem_cons_self
  have ndn : (l :: (f ++ f2)).Nodup := by
    refine List.nodup_cons.mpr ⟨fun m => (List.mem_append.mp m).elim hlf hl2, List.nodup_append.mpr ⟨(List.nodup_cons.mp nd2).2, nd1, fun a ha b hb e => ?_⟩⟩
    subst e
    exact nin a hb (List.mem_cons_of_mem _ ha)
  have tr2 : TrP c.K S2 (upd H2 l (.dK (xs ++ [(k, v)]))) (l :: (f ++ f2)) (.ref l) (.dct (kvs ++ [(k, t)])) :=
    .dct upd_same (trpk_snoc (x2'.ext (.refl _) fun a m => upd_ne fun (z : a = l) => hl2 (by rw [← z]; exact m)) (TrPk.ext (.refl _) t4 fun a m => upd_ne fun (z : a = l) => hlf (by rw [← z]; exact m)))
  refine (h3 (l :: (f ++ f2))).rr S2 _ σ (I3.prvW hs3 hv1 List.mem_cons_self (fun a m => ?_) tr2 ndn) D (q.up (a1.s.trans a2.s))
  rcases List.mem_cons.mp m with rfl | m
  · exact .inl List.mem_cons_self
  · rcases List.mem_append.mp m with m | m
    · exact .inl (List.mem_cons_of_mem _ m)
    · exact .inr ⟨(up a m).2, (n1 a m).2.1, no a m⟩
end
/-! ### a dict of one's own, read -/
section
variable {c : CxD} {B : Bs} {a b e : Expr} {sl sl1 : List Sl} {p : Bool} {kvs : List (Key × PyData)} {pos p1 p2 : Pos}
theorem nwD_rd {K : PySem.W.Frag} {H : Hp} {v : V} (h : Tr K H v (dD kvs)) : RdD K H H v kvs := by
  obtain ⟨l, xs, e, h1, h2⟩ := tr_dD h
  exact ⟨l, xs, e, h1, h2⟩
/-- max(d) -/
theorem ev_maxW {ns : List Int} {m : Int} (ha : EV c B e sl p (.nw (dD kvs)) sl1) (hm : c.mg "max" = none) (hk : kvs.map (·.1) = ns.map Sum.inl) (h1 : m ∈ ns) (h2 : ∀ y ∈ ns, y ≤ m) (hg : c.sc.names.lookup ("max" : Str) = some .globalImplicit := by rfl) (he : ∀ env, starEach [e] env = (false, eval e env) :: starEach [] env := by intro env; rfl) :
    EV c B (.Call (.Name "max" p1) [e] [] pos) sl p (.st (.int m)) sl1 := by
  refine ev_call1B (k1 := .nw (dD kvs)) (id := "max") (r := fun vs H Q => ∃ (a : Addr) (xs : List (Key × V)) (ns : List Int), vs = [.ref a] ∧ Rd H a (.dK xs) ∧ xs.map (·.1) = ns.map Sum.inl ∧ 0 < ns.length ∧ ∀ n, n ∈ ns → (∀ y ∈ ns, y ≤ n) → Q (.int n) H) (fun X hX => cr_maxDK hX.calm) (fun B σ sl S H v I x Q q => ?_) ha hm (by decide +kernel) hg he
  obtain ⟨a, xs, rfl, r, t⟩ := nwD_rd x
  refine ⟨a, xs, ns, rfl, r, (prK_fst t).trans hk, List.length_pos_of_mem h1, fun n n1 n2 => ?_⟩
  rw [Int.le_antisymm (h2 n n1) (n2 m h1)]
  exact q.st I (.int _)
/-- d != {} -/
theorem cm_neW0 {p4 : Pos} (ha : EV c B a sl p (.nw (dD kvs)) sl1) : CM c B .NotEq a (.Dict [] [] p4) sl p (!kvs.isEmpty) sl1 := by
  obtain ⟨ta, ga, sa⟩ := ha
  obtain ⟨tb, gb, sb⟩ := ev_dnew (c := c) (B := B) (sl := sl1) (pos := p4)
  have ho : ∀ X, InCx c X → OpR X (compareOp .NotEq) (rD0 true) := fun X hX => op_neD0 (by have := hX.rm.units; omega)
  have hb2 : behindInMarks .NotEq (.Dict [] [] p4) = false := by with_unfolding_all rfl
  refine ⟨tOp (rD0 true) ta tb, fun X pos hX => ⟨pe_cmpR (ho X hX) (ga X hX) (gb X hX) hb2, pt_cmpR (ho X hX) (ga X hX) (gb X hX) hb2⟩, fun S H σ I Q fn => ?_⟩
  refine sa S H σ I _ fun x S1 H1 I1 a1 x1 f1 => sb S1 H1 σ I1 _ fun y S2 H2 I2 a2 x2 f2 => ?_
  have x1' : Tr c.K H2 x (dD kvs) := Tr.sam (a2.h rfl) x1
  obtain ⟨l, xs, rfl, h1, h2⟩ := nwD_rd x1'
  obtain ⟨m, rfl, _, _, ⟨ys, e, ty⟩, _⟩ := x2
  cases ty
  refine ⟨l, m, xs, rfl, rfl, h1, .inl e, ?_⟩
  rw [prK_emp h2]
  exact fn _ S2 H2 I2 ((a1.trans a2).weak fun h => by rw [h]; rfl) (.bl _) trivial
end
end Mw

/-! NwZV: {k: v, ..}; the dict {2: .., True: ..}. -/
namespace Mw
open PySem PySem.Spec L2 PyProof.Rows
variable [Tb]
/-! ### displays -/
def DV (c : CxD) (B : Bs) (ks : List (Option Expr)) (vs : List Expr) (sl : List Sl) (p : Bool) (kvs : List (Key × PyData)) (sl' : List Sl) : Prop :=
  ∃ trs, (∀ X pos, InCx c X → PPs X pos ks vs trs) ∧ ∀ S H σ, Stt c.K B S H σ sl → ∀ Q : List (V × V) → Hp → Prop, (∀ S' H' xs, Stt c.K B S' H' σ sl' → Adv σ sl S H sl' S' H' p → PrK c.K S' xs kvs → Q (xs.map fun kv => (kV kv.1, kv.2)) H') → tPairs trs σ H Q
theorem PrK.mono {K : PySem.W.Frag} {S S' : Hp} (s : Same S S') : ∀ {xs : List (Key × V)} {kvs : List (Key × PyData)}, PrK K S xs kvs → PrK K S' xs kvs
  | _, _, .nil => .nil
  | _, _, .cons h t => .cons ⟨h.1, h.2.mono s⟩ (PrK.mono s t)
theorem Stt.free {K : PySem.W.Frag} {B : Bs} {S H : Hp} {σ : L2.St} {sl : List Sl} (I : Stt K B S H σ sl) {l : Addr} {w u : HO} (e0 : H l = some w) (nh : ¬ Hard w) (nS : S l = none) (n0 : B.H0 l = none) (no : ¬ OwnAt σ sl l) : Stt K B S (upd H l u) σ sl := by
  refine ⟨I.s0, fun b w e => ?_, I.new, fun b w e hn ht => ?_, fun b w e => ?_, I.lsd, I.len, fun j s2 e => ?_, I.dis, tabs_upd I.tabs e0 nh, tbk_upd I.tbk e0 nh, I.snt, I.sm⟩
  · rw [upd_ne fun z => by rw [z, nS] at e; cases e]; exact I.sh _ _ e
  · rw [upd_ne fun z => by rw [z, n0] at e; cases e]; exact I.keep _ _ e hn ht
  · rw [upd_ne fun z => by rw [z, n0] at e; cases e]; exact I.dom _ _ e
  · obtain ⟨x, hx, ok⟩ := I.slot j s2 e
    refine ⟨x, hx, ok.ext (.refl _) (fun a m => upd_ne fun z => no ⟨j, s2, x, e, hx, by rw [← z]; exact m⟩) fun a m => (ok.fp m).1⟩
section
variable {c : CxD} {B : Bs} {a b e : Expr} {ks : List (Option Expr)} {vs : List Expr} {sl sl1 sl2 : List Sl} {p q : Bool} {kvs : List (Key × PyData)} {k : Key} {d : PyData} {pos p1 p2 p3 : Pos}
theorem dv_nil : DV c B [] [] sl true [] sl := ⟨[], fun X pos _ => pps_nil, fun S H σ I Q q => q S H [] I .refl .nil⟩
theorem dv_cons (hk : EV c B a sl true (.st (keyD k)) sl) (hv : EV c B b sl p (.st d) sl1) (hr : DV c B ks vs sl1 q kvs sl2) : DV c B (some a :: ks) (b :: vs) sl (p && q) ((k, d) :: kvs) sl2 := by
  obtain ⟨ta, ga, sa⟩ := hk
  obtain ⟨tb, gb, sb⟩ := hv
  obtain ⟨trs, gr, sr⟩ := hr
  refine ⟨(ta, tb) :: trs, fun X pos hX => pps_cons (ga X hX) (gb X hX) (gr X pos hX), fun S H σ I Q fn => ?_⟩
  refine sa S H σ I _ fun x S1 H1 I1 a1 x1 _ => sb S1 H1 σ I1 _ fun y S2 H2 I2 a2 x2 _ => sr S2 H2 σ I2 _ fun S3 H3 xs I3 a3 x3 => ?_
  cases tr_key x1
  exact fn S3 H3 ((k, y) :: xs) I3 (((a1.trans a2).trans a3).weak fun h => by simpa using h) (.cons ⟨rfl, x2.mono a3.s⟩ x3)
/-- {k: v, ..} -/
theorem ev_disp (h : DV c B ks vs sl p kvs sl1) (hnd : (kvs.map (·.1)).Nodup := by decide) (hall : ks.all (·.isSome) = true := by rfl) (hl : ks.length = vs.length := by rfl) (h0 : ks ≠ [] := by simp) (h15 : ks.length ≤ 15 := by exact Nat.le_of_ble_eq_true rfl) (hk : kvs.length ≤ 15 := by exact Nat.le_of_ble_eq_true rfl) : EV c B (.Dict ks vs pos) sl p (.fr (.dct kvs)) sl1 := by
  obtain ⟨trs, g, s⟩ := h
  refine ⟨tDisp trs, fun X hX => pe_disp (g X pos hX) hall hl h0 h15, fun S H σ I Q fn l hn => ?_⟩
  have I1 := I.laid (o := .dK []) hn
  obtain ⟨w1, w2, w3⟩ := I.notIn hn
  have a0 : Adv σ sl S H sl S (upd H l (.dK [])) true := .same (same_new hn)
  refine s S _ σ I1 _ fun S2 H2 xs I2 a2 x2 => ?_
  have e2 : H2 l = some (.dK []) := a2.k l _ upd_same (fun ps z => nomatch z) w3
  have n2 : S2 l = none := a2.notS upd_same w1
  have o2 : ¬ OwnAt σ sl1 l := fun z => w3 (a2.w l z)
  refine ⟨e2, xs, rfl, by rw [prK_len x2]; exact hk, ?_⟩
  have em : mergeK [] xs = xs := by
    have go : ∀ (xs acc : List (Key × V)), ((acc ++ xs).map (·.1)).Nodup → mergeK acc xs = acc ++ xs := by
      intro xs
      induction xs with
      | nil => intro acc _; show acc = acc ++ []; rw [List.append_nil]
      | cons p r ih =>
        intro acc h
        have hp : p.1 ∉ acc.map (·.1) := fun m => by
          rw [List.map_append, List.map_cons] at h
          exact (List.nodup_append.mp h).2.2 _ m _ (by simp) rfl
        have e : putK acc p.1 p.2 = acc ++ [p] := by
          unfold putK
          have : acc.any (fun q => decide (q.1 = p.1)) = false := by
            rw [List.any_eq_false]
            intro q hq z
            exact hp (List.mem_map.mpr ⟨q, hq, of_decide_eq_true z⟩)
          first
            | rw [this]; rfl
            | (rw [if_neg]; simp at this ⊢; exact fun a b hab => this a b hab)
        show mergeK (putK acc p.1 p.2) r = _
        rw [e, ih (acc ++ [p]) (by rw [List.append_assoc]; exact h), List.append_assoc]; rfl
    have := go xs [] (by rw [List.nil_append, prK_fst x2]; exact hnd)
    rwa [List.nil_append] at this
  rw [em]
  have I3 : Stt c.K B S2 (upd H2 l (.dK xs)) σ sl1 := I2.free (l := l) (u := .dK xs) e2 (by rintro (⟨ps, z⟩ | ⟨f, z⟩) <;> cases z) n2 w2 o2
  refine fn _ S2 _ I3 ⟨a2.s, fun b o e1 e3 => ?_, fun b o e1 => ?_, fun b o e1 ht no => ?_, fun hp => ⟨fun b o e1 ht => ?_, fun b ps e1 => ?_⟩, a2.w⟩ ⟨l, rfl, n2, w2, ⟨xs, upd_same, x2⟩, o2⟩ (fun l' e => by cases e; exact hn)
  · have := a2.n b o e1 e3
    by_cases z : b = l
    · rw [z]; exact hn
    · rw [upd_ne z] at this; exact this
  · by_cases z : b = l
    · exact ⟨_, by rw [z, upd_same]⟩
    · rw [upd_ne z]; exact a2.d b o (by rw [upd_ne z]; exact e1)
  · have z : b ≠ l := fun z => by rw [z, hn] at e1; cases e1
    rw [upd_ne z]
    exact a2.k b o (by rw [upd_ne z]; exact e1) ht no
  · have z : b ≠ l := fun z => by rw [z, hn] at e1; cases e1
    rw [upd_ne z]
    exact (a2.h hp).st b o (by rw [upd_ne z]; exact e1) ht
  · have z : b ≠ l := fun z => by rw [z, hn] at e1; cases e1
    obtain ⟨q', e4⟩ := (a2.h hp).tb b ps (by rw [upd_ne z]; exact e1)
    exact ⟨q', by rw [upd_ne z]; exact e4⟩
end
/-! ### {2: .., True: ..} -/
def bkIs : Bool → Value → Bool
  | true, .bool b => b
  | false, .int i _ => i == 2
  | _, _ => false
theorem bkIs_t {v : Value} (h : bkIs true v = true) : v = .bool true := by
  cases v <;> first | cases h | skip
  rename_i b
  cases b <;> first | rfl | cases h
theorem bkIs_f {v : Value} (h : bkIs false v = true) : ∃ t, v = .int 2 t := by
  cases v <;> first | cases h | skip
  rename_i i t
  have : i = 2 := by simpa [bkIs] using h
  exact ⟨t, by rw [this]⟩
def bkKind (prog : Program) (w : World) : PySem.KeyKind prog w Bool where
  is := bkIs
  hash := fun b => if b = true then hashInt 1 else hashInt 2
  inj := fun v a b ha hb => by
    cases a <;> cases b <;> first | rfl | skip
    · obtain ⟨t, rfl⟩ := bkIs_f ha; cases hb
    · obtain ⟨t, rfl⟩ := bkIs_f hb; cases ha
  byValue := fun k v h => by
    cases k
    · obtain ⟨t, rfl⟩ := bkIs_f h; rfl
    · rw [bkIs_t h]; rfl
  pyHash := fun {A E s k v Q} hv h => by
    cases k
    · obtain ⟨t, rfl⟩ := bkIs_f hv; exact wpAny_pyHash_int h
    · rw [bkIs_t hv]
      have h' : Q (hashInt 1) { s with toks := s.toks + 1 } := h
      rw [← show reduceHash 1 = hashInt 1 by decide +kernel] at h'
      exact W.pyHash_slot (T := "bool") rfl F.slot_bool_hash entry_int_hash (args_int_hash _) (beq_builtin_none _) (.inl rfl) (show wpAny _ _ (do ret (← mkInt 1)) _ _ s from wpAny_bind (wpAny_mkInt (wpAny_pure ⟨_, _, rfl, h'⟩)))
  eqBool := fun {A E s a b u v Q} hu hv h => by
    cases a <;> cases b
    · obtain ⟨t, rfl⟩ := bkIs_f hu
      obtain ⟨t2, rfl⟩ := bkIs_f hv
      exact wpAny_eqBool_int h
    · obtain ⟨t, rfl⟩ := bkIs_f hu
      rw [bkIs_t hv]
      exact SeqAt.EqAt.int_bool 2 t true _ _ _ _ h
    · obtain ⟨t2, rfl⟩ := bkIs_f hv
      rw [bkIs_t hu]
      exact SeqAt.EqAt.bool_int true 2 t2 _ _ _ _ h
    · rw [bkIs_t hu, bkIs_t hv]
      exact SeqAt.EqAt.bool_bool true true _ _ _ _ h
  «strs» := fun k x t v h => by cases k <;> cases h
theorem bk_at {P : Program} {w : World} {h : Heap} {a l1 l2 : Addr} {o : Obj} (ho : BkD o l1 l2) (e : h.get? a = some o) : ∃ ep, (∃ es, o.data = .dict es ep) ∧ h.DictAt (bkKind P w) a [(false, .ref l1), (true, .ref l2)] ep := by
  obtain ⟨hx, es, ep, t, hd, he⟩ := ho
  refine ⟨ep, ⟨es, hd⟩, o, es, e, hx, hd, fun en hen => ?_, ?_, by simp⟩
  · subst he
    have hen : en = ⟨hashInt 2, .int 2 t, .ref l1⟩ ∨ en = ⟨hashInt 1, .bool true, .ref l2⟩ := by simpa using hen
    rcases hen with rfl | rfl
    · exact ⟨false, rfl, rfl⟩
    · exact ⟨true, rfl, rfl⟩
  · subst he
    exact .cons rfl rfl (.cons rfl rfl .nil)
theorem DictAt.of {P : Program} {w : World} {h : Heap} {a : Addr} {kvs : List (Bool × Value)} {ep : Nat} (x : h.DictAt (bkKind P w) a kvs ep) : h.DictOf (bkKind P w) a kvs :=
  let ⟨o, es, h1, h2, h3, h4⟩ := x; ⟨o, es, ep, h1, h2, h3, h4⟩
theorem bk_of {P : Program} {w : World} {h : Heap} {a l1 l2 : Addr} (x : h.DictOf (bkKind P w) a [(false, .ref l1), (true, .ref l2)]) : ∃ o, h.get? a = some o ∧ BkD o l1 l2 := by
  obtain ⟨o, es, ep, h1, h2, h3, h4, h5, _⟩ := x
  refine ⟨o, h1, h2, es, ep, ?_⟩
  obtain ⟨es⟩ := es
  have h5 : Pairs (bkKind P w) es [(false, .ref l1), (true, .ref l2)] := h5
  cases h5 with
  | @cons e1 _ r1 _ k1 v1 t1 =>
    cases t1 with
    | @cons e2 _ r2 _ k2 v2 t2 =>
      cases t2
      obtain ⟨a1, b1, c1⟩ := e1
      obtain ⟨a2, b2, c2⟩ := e2
      obtain ⟨t, rfl⟩ := bkIs_f k1
      have k2 : b2 = .bool true := bkIs_t k2
      have v1 : c1 = .ref l1 := v1
      have v2 : c2 = .ref l2 := v2
      subst k2 v1 v2
      obtain ⟨z1, y1, x1⟩ := h4 ⟨a1, .int 2 t, .ref l1⟩ (by simp)
      obtain ⟨z2, y2, x2⟩ := h4 ⟨a2, .bool true, .ref l2⟩ (by simp)
      have x1 : a1 = hashInt 2 := by cases z1 <;> first | exact x1 | cases y1
      have x2 : a2 = hashInt 1 := by cases z2 <;> first | exact x2 | cases y2
      exact ⟨t, h3, by rw [x1, x2]⟩
def bkDd : PyData := .dict [(.none, .bool true)]
theorem tr_bk {K : PySem.W.Frag} {S : Hp} {v : V} (x : Tr K S v bkDd) : ∃ a l1 l2 o, v = .ref a ∧ (a == sysModules) = false ∧ BkD o l1 l2 ∧ S a = some (bkH a o) ∧ SqL K S l1 [] ∧ SqL K S l2 [] := by
  generalize hd : bkDd = d' at x
  unfold bkDd at hd
  cases x with
  | bkd hs ho h h1 h2 => exact ⟨_, _, _, _, rfl, hs, ho, h, h1, h2⟩
  | dct h t =>
    exfalso
    cases t with
    | nil => exact absurd hd (by simp)
    | cons h t =>
      injection hd with hd
      injection hd with hd _
      injection hd with hd _
      exact absurd hd.symm keyD_nn
  | rw a => exact absurd hd (by simp)
  | exc0 h => exact absurd hd (by simp)
  | exc1 h hx t => exact absurd hd (by simp)
  | _ => cases hd
section
variable {X : Cx}
theorem call_dictBk (hcalm : X.calm = true) : CallR X (.type "dict") (fun xs H Q => ∃ (a T1 T2 l1 l2 : Addr), xs = [.ref a] ∧ SqL X.K H a [.ref T1, .ref T2] ∧ SqT X.K H T1 [.int 2, .ref l1] ∧ SqT X.K H T2 [.bl true, .ref l2] ∧ ∀ p o, H p = none → (p == sysModules) = false → BkD o l1 l2 → Q (.ref p) (upd H p (bkH p o))) := by
  intro pins s σ H xs us Q I r q
  obtain ⟨a, T1, T2, l1, l2, ex, hq, h1, h2, q⟩ := q
  subst ex
  obtain ⟨u, eu, rx⟩ := vals1 r
  subst eu
  cases rx
  obtain ⟨its, rv, pl, hz⟩ := I.list hq
  obtain ⟨i1, r1, p1, _⟩ := I.tuple h1
  obtain ⟨i2, r2, p2, _⟩ := I.tuple h2
  cases rv with
  | cons ra rv =>
  cases rv with
  | cons rb rv =>
  cases rv
  cases ra
  cases rb
  cases r1 with
  | cons rc r1 =>
  cases r1 with
  | cons rd r1 =>
  cases r1
  obtain ⟨t, rfl⟩ := rc
  cases rd
  cases r2 with
  | cons re r2 =>
  cases r2 with
  | cons rf r2 =>
  cases r2
  cases re
  cases rf
  obtain ⟨o, n, ho, hc, hd, hdat⟩ := pl
  refine _root_.PySem.call_dict_pairs (knd := bkKind X.prog X.w) (kvs := [(false, .ref l1), (true, .ref l2)]) (PySem.PairArg.list a #[.ref T1, .ref T2] (fun j => if j = 0 then T1 else T2) [(.int 2 t, .ref l1), (.bool true, .ref l2)]) (I.ok.hd hcalm) ⟨⟨o, n, ho, hc, hd, hdat⟩, rfl, fun j k v e => ?_⟩ ⟨rfl, fun i key v e => ?_⟩ (by show 2 ≤ sizeLine; decide) fun h' tk hd' k => ?_
  · match j, e with
    | 0, e => cases e; exact ⟨rfl, .inl (by obtain ⟨ob, e1, e2, n1, e3⟩ := p1; exact ⟨ob, e1, e2, n1, e3⟩)⟩
    | 1, e => cases e; exact ⟨rfl, .inl (by obtain ⟨ob, e1, e2, n1, e3⟩ := p2; exact ⟨ob, e1, e2, n1, e3⟩)⟩
  · match i, e with
    | 0, e => cases e; exact ⟨false, rfl, rfl⟩
    | 1, e => cases e; exact ⟨true, rfl, rfl⟩
  · have k' : ∀ b o, s.heap.get? b = some o → h'.get? b = some o := fun b o e => k b o (by simp) e
    have hd2 : h'.DictOf (bkKind X.prog X.w) s.heap.objs.size [(false, .ref l1), (true, .ref l2)] := hd'
    obtain ⟨o2, e2, b2⟩ := bk_of hd2
    have hm : (s.heap.objs.size == sysModules) = false := beq_eq_false_iff_ne.mpr (Nat.ne_of_gt I.big)
    exact ⟨.ref s.heap.objs.size, upd H s.heap.objs.size (bkH s.heap.objs.size o2), I.laid (t' := tk) k' (Nat.le_refl _) (show ObjOk X.prog X.w _ _ _ (bkH s.heap.objs.size o2) from ⟨e2, ⟨o2, e2⟩, fun h1 h2 e k => k o2 e⟩), rfl, q _ o2 (I.hok.fresh (Nat.le_refl _)) hm b2⟩
theorem call_isiBk : CallR X (.builtin "isinstance") (fun xs H Q => ∃ a o l1 l2, xs = [.ref a, .ty "dict"] ∧ H a = some (bkH a o) ∧ BkD o l1 l2 ∧ Q (.bl true) H) := by
  intro pins s σ H xs us Q I r q
  obtain ⟨a, o, l1, l2, ex, h, hb, q⟩ := q
  subst ex
  cases r with
  | cons ra r =>
  cases r with
  | cons rb r =>
  cases r
  cases ra
  cases rb
  have ho : ObjOk X.prog X.w H s.heap a (bkH a o) := I.hok a _ h
  exact call_isinstance (isinstance_true (Tx := "dict") F.isi_meta_dict isSubtype_dict_dict) ⟨⟨o, ho.1, hb.1.1⟩, ⟨.bl true, H, I, rfl, q⟩⟩
theorem call_lenBk : CallR X (.builtin "len") (fun xs H Q => ∃ a o l1 l2, xs = [.ref a] ∧ H a = some (bkH a o) ∧ (a == sysModules) = false ∧ BkD o l1 l2 ∧ Q (.int 2) H) := by
  intro pins s σ H xs us Q I r q
  obtain ⟨a, o, l1, l2, ex, h, hs, hb, q⟩ := q
  subst ex
  obtain ⟨u, eu, rx⟩ := vals1 r
  subst eu
  cases rx
  have ho : ObjOk X.prog X.w H s.heap a (bkH a o) := I.hok a _ h
  obtain ⟨ep, _, hat⟩ := bk_at (P := X.prog) (w := X.w) hb ho.1
  exact call_len_dict hs (DictAt.of hat) (show ((2 : Nat) : Int) < 2 ^ 63 by decide) ⟨.int 2, H, I.tok _, ⟨_, rfl⟩, q⟩
end
/-! #### its pairs -/
def Itb (d : Addr) (o : Obj) (l1 l2 : Addr) : It :=
  ⟨fun i H => H d = some (bkH d o) ∧ i < 2, fun i H x H' => ∃ T, x = .ref T ∧ H T = none ∧ ((i = 0 ∧ H' = upd H T (.tup [.int 2, .ref l1])) ∨ (i = 1 ∧ H' = upd H T (.tup [.bl true, .ref l2]))), fun i H => H d = some (bkH d o) ∧ 2 ≤ i⟩
theorem turn_bk {P : Program} {w : World} {K : PySem.W.Frag} {elts : List Expr} {kk : Nat} {tpos : Pos} {d l1 l2 : Addr} {o : Obj} {es : Array DictEntry} {ep : Nat} (it : Addr) (hb : BkD o l1 l2) (hod : o.data = .dict es ep) :
    Turn P w K (.Tuple elts kk tpos) (Itb d o l1 l2) [it] it (fun i h => ∃ ok ov, IsItemIter h it d i 2 ep ok ov) where
  mem := by simp
  obj := fun i h st b hb => by
    have e : b = it := by simpa using hb
    subst e
    obtain ⟨ok, ov, e⟩ := st
    exact ⟨_, e, fun v z => nomatch z⟩
  keep := fun i h h' st k => let ⟨ok, ov, e⟩ := st; ⟨ok, ov, k it (by simp) _ e⟩
  item := by
    intro X hP hw hK hc i pins s σ H E I hf st hg
    subst hP hw hK
    obtain ⟨hd, hi⟩ := hg
    have ho : ObjOk X.prog X.w H s.heap d (bkH d o) := I.hok d _ hd
    obtain ⟨ep2, ⟨es2, hd2⟩, hm⟩ := bk_at (P := X.prog) (w := X.w) hb ho.1
    obtain ⟨rfl, rfl⟩ := dict_ep hod hd2
    obtain ⟨ok, ov, he⟩ := st
    have hlt : it < s.heap.objs.size := Heap.lt_size he
    obtain ⟨k, v, kv, lv, hu, hkv, hfin⟩ : ∃ (k : Bool) (v : Value) (kv lv : V), [(false, Value.ref l1), (true, Value.ref l2)][i]? = some (k, v) ∧ (∀ key, bkIs k key = true → RelV kv key) ∧ RelV lv v ∧ ((i = 0 ∧ [kv, lv] = [V.int 2, .ref l1]) ∨ (i = 1 ∧ [kv, lv] = [V.bl true, .ref l2])) := by
      have : i = 0 ∨ i = 1 := by omega
      rcases this with rfl | rfl
      · exact ⟨false, _, .int 2, .ref l1, rfl, fun key h => by obtain ⟨t, rfl⟩ := bkIs_f h; exact ⟨t, rfl⟩, rfl, .inl ⟨rfl, rfl⟩⟩
      · exact ⟨true, _, .bl true, .ref l2, rfl, fun key h => by rw [bkIs_t h]; rfl, rfl, .inr ⟨rfl, rfl⟩⟩
    refine wpAny_pyNext_items_item he hm hu fun key h' hkey ho2 hT hz hk => ?_
    refine ⟨_, rfl, wpAny_letOwnedTupleGo_items (s := { s with heap := h' }) ho2 fun h'' he' sb => ?_⟩
    have hT2 : h''.get? s.heap.objs.size = some { cls := .type "tuple", data := .seq #[key, v] } := (sb.2 _ (Nat.ne_of_gt hlt)).trans hT
    have new : ObjOk X.prog X.w (upd H s.heap.objs.size (.tup [kv, lv])) h'' s.heap.objs.size (.tup [kv, lv]) :=
      ⟨by show 2 ≤ sizeLine; decide, [key, v], .cons (hkv key hkey) (.cons hfin.1 .nil), ⟨_, hT2, rfl, _, rfl⟩⟩
    have I1 : Inv X pins σ (upd H s.heap.objs.size (.tup [kv, lv])) { s with heap := h'' } :=
      I.turnedNew (t' := s.toks) (ch := [it]) (fun b ob hb e => (sb.2 b (by simpa using hb)).trans (hk b ob (by simpa using hb) e)) hf (Nat.le_refl _) new
    refine ⟨.ref s.heap.objs.size, _, I1, rfl, ⟨_, rfl, I.hok.fresh (Nat.le_refl _), ?_⟩, ⟨key, v, he'⟩, fun b hb => ?_⟩
    · rcases hfin.2 with ⟨e1, e2⟩ | ⟨e1, e2⟩
      · exact .inl ⟨e1, by rw [e2]⟩
      · exact .inr ⟨e1, by rw [e2]⟩
    · have e : b = it := by simpa using hb
      rw [e, upd_ne (Nat.ne_of_lt hlt)]
      exact (hf it (by simp)).1
  done := by
    intro X hP hw hK hc i pins s σ H E I hf st hg
    subst hP hw hK
    obtain ⟨hd, hi⟩ := hg
    obtain ⟨f0, f1, f2, f3, f4, f5⟩ := hf it (by simp)
    have ho : ObjOk X.prog X.w H s.heap d (bkH d o) := I.hok d _ hd
    obtain ⟨ep2, ⟨es2, hd2⟩, hm⟩ := bk_at (P := X.prog) (w := X.w) hb ho.1
    obtain ⟨rfl, rfl⟩ := dict_ep hod hd2
    obtain ⟨ok, ov, he⟩ := st
    exact wpAny_pyNext_items_end (I.ok.hd hc) he hm (List.getElem?_eq_none (by simpa using hi)) fun h' eb => ⟨rfl, I.turned (t' := s.toks) (fun b ob hb e => eb b ob hb e) f0 f1 f3 f4 f5⟩
  self := fun A i s Q E st h => let ⟨_, _, e⟩ := st; PySem.W.kcp_self e h
def iBk (td : TE) : TI := fun σ H R => td σ H fun x H1 => ∃ d o l1 l2, x = .ref d ∧ (d == sysModules) = false ∧ H1 d = some (bkH d o) ∧ BkD o l1 l2 ∧ R (Itb d o l1 l2) H1
theorem pi_bk {X : Cx} {e : Expr} {td : TE} {apos cpos tpos : Pos} {elts : List Expr} {kk : Nat} (he : PE X e td) (hbase : attributeBase e "items" X.env (eval e X.env) = eval e X.env := by rfl) (hline : (apos.endLine == cpos.line) = true := by rfl) :
    PI X (.Tuple elts kk tpos) (.Call (.Attribute e "items" apos) [] [] cpos) (iBk td) := by
  refine ⟨fun pins s σ H R I h => ?_⟩
  refine wpAny_Call_method (T := "dict") (id := "dict.items") hbase rfl hline PySem.F.plainAttrs_dict PySem.F.slot_dict_items PySem.F.type_dict_items (thn (he.run pins s σ H _ I h) fun u s1 ⟨x, H1, I1, rx, d, o, l1, l2, ex, hs, hd, hb, q⟩ => ?_)
  subst ex
  obtain rfl : u = Value.ref d := rx
  have ho : ObjOk X.prog X.w H1 s1.heap d (bkH d o) := I1.hok d _ hd
  obtain ⟨ep, ⟨es, hdt⟩, hm⟩ := bk_at (P := X.prog) (w := X.w) hb ho.1
  have hof := DictAt.of hm
  refine ⟨hof.typeIs, hof.mapOf.noDict, ?_⟩
  have I2 : Inv X pins σ H1 { s1 with heap := s1.heap.push { cls := .type "dict_items", data := .fields #[.ref d] } } := I1.kept (t' := s1.toks) fun b ob q => Heap.get?_push_of_some _ q
  have fin : wpAny (model X.prog X.w) X.A (pyIter (.ref s1.heap.objs.size)) (PIE X pins σ (.Tuple elts kk tpos) R) X.xe { s1 with heap := s1.heap.push { cls := .type "dict_items", data := .fields #[.ref d] } } :=
    wpAny_pyIter_items (d := d) (knd := bkKind X.prog X.w) ⟨_, Heap.get?_push_size _ rfl, rfl, rfl⟩ (hm.push _) (pi_one (tk := s1.toks) I2 _ (turn_bk _ hb hdt) ⟨.none, .none, Heap.get?_push_size _ rfl⟩ q)
  show wpAny _ _ (callWith cpos (.builtin "dict.items") [.ref d] [] []) _ X.xe s1
  exact method_meetsIn PySem.F.slot_dict_items PySem.F.entry_dict_items rfl (PySem.evalArgs_none ⟨rfl, hof.typeIs, PySem.F.args_dict_items_1 _, _, meets_dict_items (bkKind X.prog X.w) d hs, ⟨_, hof⟩, fin⟩)
section
variable {c : CxD} {B : Bs} {tg e a b : Expr} {es : List Expr} {sl sl1 : List Sl} {p : Bool} {kk : Nat} {pos p1 p2 apos cpos tpos : Pos}
theorem itb_ok {K : PySem.W.Frag} {S G : Hp} {d l1 l2 : Addr} {o : Obj} (h : S d = some (bkH d o)) (h1 : SqL K S l1 []) (h2 : SqL K S l2 []) : ItOk K (Itb d o l1 l2) S G [.tuple [.int 2, .list []], .tuple [.bool true, .list []]] := by
  intro S1 H1 s1 s2 _ i
  have e := s2 _ _ (s1 _ _ h)
  refine ⟨fun y hy => ?_, fun hl => ⟨e, hl⟩⟩
  have hi : i < 2 := (List.getElem?_eq_some_iff.mp hy).1
  refine ⟨⟨e, hi⟩, fun x H2 z => ?_⟩
  obtain ⟨T, rfl, nT, z⟩ := z
  have nS : S1 T = none := s2.free nT
  have go : ∀ (w : V) (dw : PyData) (l : Addr), H2 = upd H1 T (.tup [w, .ref l]) → Tr K S1 w dw → SqL K S l [] → y = .tuple [dw, .list []] → ∃ S2, Same S1 S2 ∧ Same S2 H2 ∧ Same H1 H2 ∧ (∀ a o, S2 a = some o → S1 a = none → H1 a = none) ∧ (NoT S1 → NoT S2) ∧ Tr K S2 (.ref T) y := by
    intro w dw l e2 tw hl ey
    subst e2 ey
    have ss : Same S1 (upd S1 T (.tup [w, .ref l])) := same_new nS
    refine ⟨_, ss, fun b o e => ?_, same_new nT, fun b o h1 h2 => ?_, fun nt => noT_upd nt trivial, .tup (.inl (.inl upd_same)) (.cons (tw.mono ss) (.cons (.lst ((same_sam (s1.trans ss)).seq hl) .nil) .nil))⟩
    · by_cases eb : b = T
      · rw [eb, upd_same] at e ⊢; exact e
      · rw [upd_ne eb] at e ⊢; exact s2 _ _ e
    · by_cases eb : b = T
      · rw [eb]; exact nT
      · rw [upd_ne eb, h2] at h1; cases h1
  rcases z with ⟨rfl, e2⟩ | ⟨rfl, e2⟩
  · exact go (.int 2) (.int 2) l1 e2 (.int 2) h1 (Option.some.inj hy).symm
  · exact go (.bl true) (.bool true) l2 e2 (.bl true) h2 (Option.some.inj hy).symm
/-- for k, v in d.items() -/
theorem ei_itemsBk (h : EV c B e sl p (.st bkDd) sl1) (hbase : ∀ env, attributeBase e "items" env (eval e env) = eval e env := by intro _; rfl) (hline : (apos.endLine == cpos.line) = true := by rfl) : EI c B (.Tuple es kk tpos) (.Call (.Attribute e "items" apos) [] [] cpos) sl p [.tuple [.int 2, .list []], .tuple [.bool true, .list []]] true sl1 := by
  obtain ⟨t, g, s⟩ := h
  refine ⟨iBk t, fun X hX => pi_bk (g X hX) (hbase _) hline, fun S H σ I R q => s S H σ I _ fun v S' H' I' a x _ => ?_⟩
  obtain ⟨d, l1, l2, o, rfl, hs, hb, hd, h1, h2⟩ := tr_bk x
  exact ⟨d, o, l1, l2, rfl, hs, I'.sh _ _ hd, hb, q _ S' H' I' a (itb_ok hd h1 h2)⟩
theorem ev_isiBk (ha : EV c B a sl p (.st bkDd) sl1) (hm : c.mg "isinstance" = none) (hn : c.mg "dict" = none) (hg : c.sc.names.lookup ("isinstance" : Str) = some .globalImplicit := by rfl) (hg2 : c.sc.names.lookup ("dict" : Str) = some .globalImplicit := by rfl)
    (he : ∀ env, starEach [a, .Name "dict" p2] env = (false, eval a env) :: starEach [.Name "dict" p2] env := by intro env; rfl) (hpl : ∀ env, (backTo pos (starEach [.Name "dict" p2] env)).any (·.1) = false := by intro env; rfl) :
    EV c B (.Call (.Name "isinstance" p1) [a, .Name "dict" p2] [] pos) sl p (.st (.bool true)) sl1 := by
  have h := ev_callB (pos := pos) (p1 := p1) (ks := [.st bkDd, .raw (.ty "dict")]) (k := .st (.bool true)) (fun X hX => call_isiBk (X := X)) (fun B σ sl S H vs I hv Q q => by
    obtain ⟨v, w, rfl, h1, h2⟩ := two_arg hv
    have e2 : w = .ty "dict" := h2
    subst e2
    obtain ⟨d, l1, l2, o, rfl, hs, hb, hd, _, _⟩ := tr_bk h1
    exact ⟨d, o, l1, l2, rfl, I.sh _ _ hd, hb, q.st I (.bl true)⟩) (av_cons ha (av_cons (ev_gty (pos := p2) hn (boot_Ty6 .dict) hg2 (by decide) (by decide)) av_nil rfl (fun _ => rfl)) (by simp [Kd.firm]) he) hm (by decide +kernel) hg he hpl
  rw [Bool.and_true, Bool.and_true] at h
  exact h
/-- len(d) -/
theorem ev_lenBk (ha : EV c B e sl p (.st bkDd) sl1) (hm : c.mg "len" = none) (hg : c.sc.names.lookup ("len" : Str) = some .globalImplicit := by rfl) (he : ∀ env, starEach [e] env = (false, eval e env) :: starEach [] env := by intro env; rfl) :
    EV c B (.Call (.Name "len" p1) [e] [] pos) sl p (.st (.int 2)) sl1 := by
  refine ev_call1B (k1 := .st bkDd) (k := .st (.int 2)) (fun X hX => call_lenBk (X := X)) (fun B σ sl S H v I x Q q => ?_) ha hm (by decide +kernel) hg he
  obtain ⟨d, l1, l2, o, rfl, hs, hb, hd, h1, h2⟩ := tr_bk x
  exact ⟨d, o, l1, l2, rfl, I.sh _ _ hd, hs, hb, q.st I (.int 2)⟩
/-- dict([(2, []), (True, [])]) -/
theorem ev_dictBk (ha : EV c B e sl p (.fr (.lst [.tuple [.int 2, .list []], .tuple [.bool true, .list []]])) sl1) (hm : c.mg "dict" = none) (hg : c.sc.names.lookup ("dict" : Str) = some .globalImplicit := by rfl) (he : ∀ env, starEach [e] env = (false, eval e env) :: starEach [] env := by intro env; rfl) :
    EV c B (.Call (.Name "dict" p1) [e] [] pos) sl p (.st bkDd) sl1 := by
  refine ev_call1T (k1 := .fr (.lst [.tuple [.int 2, .list []], .tuple [.bool true, .list []]])) (k := .st bkDd) (fun X hX => by have := call_dictBk (X := X) hX.calm; rw [hX.hK] at this; exact this) (fun B σ sl S H v I x Q q => ?_) ha hm (by decide +kernel) hg he
  obtain ⟨l, rfl, nl, n0, ⟨xs, hl, tx⟩, no⟩ := x
  cases tx with
  | cons t1 tx =>
  cases tx with
  | cons t2 tx =>
  cases tx
  obtain ⟨T1, y1, rfl, q1, u1⟩ := tr_tup t1
  obtain ⟨T2, y2, rfl, q2, u2⟩ := tr_tup t2
  cases u1 with
  | cons i1 u1 =>
  cases u1 with
  | cons j1 u1 =>
  cases u1
  cases u2 with
  | cons i2 u2 =>
  cases u2 with
  | cons j2 u2 =>
  cases u2
  cases i1
  cases i2
  obtain ⟨l1, z1, rfl, w1, v1⟩ := tr_lst j1
  obtain ⟨l2, z2, rfl, w2, v2⟩ := tr_lst j2
  cases v1
  cases v2
  refine ⟨l, T1, T2, l1, l2, rfl, .inl (.inl hl), (same_sam I.sh).sqt q1, (same_sam I.sh).sqt q2, fun b o hn hs hb => ?_⟩
  obtain ⟨I2, a2⟩ := I.laid2 (o := bkH b o) hn trivial
  exact q _ _ _ I2 a2 (.bkd hs hb upd_same ((same_sam a2.s).seq w1) ((same_sam a2.s).seq w2)) trivial
end
end Mw

/-! NwZW: e if t else f, of trees that are handed on; x is None, of what may be read now. -/
namespace Mw
open PySem PySem.Spec L2 PyProof.Rows
variable [Tb]
inductive AsDs : List Kd → List PyData → Prop
  | nil : AsDs [] []
  | cons {k : Kd} {d : PyData} {ks : List Kd} {ds : List PyData} (h : AsD k d) (t : AsDs ks ds) : AsDs (k :: ks) (d :: ds)
theorem AsDs.trs {K : PySem.W.Frag} {B : Bs} {S H : Hp} {σ : L2.St} {sl : List Sl} (I : Stt K B S H σ sl) : ∀ {ks : List Kd} {ds : List PyData} {vs : List V}, AsDs ks ds → KdsOk K B σ sl S H vs ks → Trs K H vs ds
  | _, _, _, .nil, .nil => .nil
  | _, _, _, .cons a t, .cons h t2 => .cons (a.tr I h) (AsDs.trs I t t2)
section
variable {c : CxD} {B : Bs} {e a b : Expr} {sl sl1 sl2 : List Sl} {p q : Bool} {t : PTr} {d : PyData} {ds : List PyData} {pos p1 p2 p3 : Pos}
theorem evg_if {u : Bool} (h : TV c B e sl p u sl1) (h1 : u = true → EVG c B a sl1 q t sl2) (h2 : u = false → EVG c B b sl1 q t sl2) : EVG c B (.IfExp e a b pos) sl (p && q) t sl2 := by
  obtain ⟨te, ge, se⟩ := h
  have up : ∀ {σ : L2.St} {S H S1 H1 : Hp} {a : Addr}, Adv σ sl S H sl1 S1 H1 p → (OwnAt σ sl1 a ∨ H1 a = none) → OwnAt σ sl a ∨ H a = none := fun a1 h => h.elim (fun z => .inl (a1.w _ z)) fun z => .inr (a1.new z)
  refine ⟨tIf te (rE c a) (rE c b), fun X hX => pe_ifExp (ge X hX) (pe_rE hX) (pe_rE hX), fun S H σ I Q fn => ?_⟩
  refine se S H σ I _ fun S1 H1 I1 a1 => ?_
  cases u with
  | true =>
    rw [if_pos rfl]
    obtain ⟨r, hr, hs⟩ := h1 rfl
    exact ⟨r, hr, hs S1 H1 σ I1 Q fun v S2 H2 fp I2 a2 x nd n => fn v S2 H2 fp I2 (a1.trans a2) x nd fun b m => ⟨(n b m).1, (n b m).2.1, (n b m).2.2.1, up a1 (n b m).2.2.2⟩⟩
  | false =>
    rw [if_neg Bool.false_ne_true]
    obtain ⟨r, hr, hs⟩ := h2 rfl
    exact ⟨r, hr, hs S1 H1 σ I1 Q fun v S2 H2 fp I2 a2 x nd n => fn v S2 H2 fp I2 (a1.trans a2) x nd fun b m => ⟨(n b m).1, (n b m).2.1, (n b m).2.2.1, up a1 (n b m).2.2.2⟩⟩
/-- a list that may be read now, as a tree -/
theorem EV.lsW (h : EV c B e sl p (.ls ds) sl1) : EV c B e sl p (.nw (.list ds)) sl1 := by
  obtain ⟨r, hr, hs⟩ := h
  exact ⟨r, hr, fun S H σ I Q q => hs S H σ I Q fun v S' H' I' a x _ => q v S' H' I' a (by
    obtain ⟨l, xs, rfl, h1, h2⟩ := x
    exact .lst h1 (h2.mono I'.sh)) trivial⟩
theorem cm_isNW {j : Nat} (ha : EV c B a sl p (.nw d) sl1) : CM c B .Is a (.Constant .none j p1) sl p (isNonD d) sl1 := by
  obtain ⟨ta, ha, sa⟩ := ha
  refine ⟨tIsN ta, fun X pos hX => ⟨pe_cmp (pc_isN (ha X hX)) rfl, pt_cmp (pc_isN (ha X hX)) rfl⟩, fun S H σ I Q fn => ?_⟩
  refine sa S H σ I _ fun x S1 H1 I1 a1 x1 f1 => ?_
  have x1 : Tr c.K H1 x d := x1
  rw [tr_isN x1]
  exact fn _ S1 H1 I1 a1 (.bl _) trivial
/-- [e, ..] of what may be read now -/
theorem ev_lstW {es : List Expr} {ks : List Kd} (ha : AV c B es sl p ks sl1) (hs : AsDs ks ds) (hl : ds.length ≤ 1000000 := by exact Nat.le_of_ble_eq_true rfl) : EV c B (.List es pos) sl p (.nw (.list ds)) sl1 := by
  obtain ⟨ta, ha, sa⟩ := ha
  refine ⟨tLst ta, fun X hX => pe_lst (ha X hX), fun S H σ I Q fn => ?_⟩
  refine sa S H σ I _ fun vs S1 H1 I1 a1 x1 => ?_
  have t := hs.trs I1 x1
  refine ⟨by rw [t.len]; exact Nat.le_trans hl (by decide), fun l hn => ?_⟩
  exact fn _ S1 _ (I1.laid hn) ((a1.trans (.same (same_new hn) (p := true))).weak fun h => by rw [h]; rfl) (.lst (.inl (.inl upd_same)) (t.sam (Sam.upd hn))) trivial
end
/-! ### repr of a dict -/
theorem Rw.dctN {b n m : Nat} {kvs : List (Key × PyData)} (h : ∀ p ∈ kvs, Rw b n (keyD p.1) ∧ Rw b n p.2) (hm : kvs.length ≤ m) : Rw (b + 1) (m * (2 * n + 4) + 3) (dD kvs) := by
  have go : ∀ (kvs : List (Key × PyData)), (∀ p ∈ kvs, Rw b n (keyD p.1) ∧ Rw b n p.2) → PyData.showableKv (kvs.map fun p => (keyD p.1, p.2)) = true ∧ noRawK (kvs.map fun p => (keyD p.1, p.2)) = true ∧ PyData.depthKv (kvs.map fun p => (keyD p.1, p.2)) ≤ b ∧ (∀ t ∈ PyData.shownKv (kvs.map fun p => (keyD p.1, p.2)), t.length ≤ 2 * n + 2) ∧ (PyData.shownKv (kvs.map fun p => (keyD p.1, p.2))).length = kvs.length := by
    intro kvs
    induction kvs with
    | nil => exact fun _ => ⟨rfl, rfl, Nat.zero_le _, fun _ h => (nomatch h), rfl⟩
    | cons p r ih =>
      intro h
      obtain ⟨a1, a2, a3, a4, a5⟩ := ih fun x hx => h x (List.mem_cons_of_mem _ hx)
      obtain ⟨hk, hv⟩ := h p List.mem_cons_self
      have nn : nnK (keyD p.1) = true := by rcases p with ⟨k | k, d⟩ <;> rfl
      refine ⟨?_, ?_, ?_, fun t ht => ?_, congrArg (· + 1) a5⟩
      · show ((keyD p.1).showable && p.2.showable && PyData.showableKv _) = true
        rw [hk.sh, hv.sh, a1]; rfl
      · show (nnK (keyD p.1) && noRaw p.2 && noRawK _) = true
        rw [nn, hv.nr, a2]; rfl
      · show max (max (keyD p.1).depth p.2.depth) (PyData.depthKv _) ≤ b
        exact Nat.max_le.mpr ⟨Nat.max_le.mpr ⟨hk.dp, hv.dp⟩, a3⟩
      · rcases List.mem_cons.mp (show t ∈ ((keyD p.1).shown ++ ": " ++ p.2.shown) :: PyData.shownKv _ from ht) with rfl | ht
        · rw [strLen_append, strLen_append]
          have := hk.sz
          have := hv.sz
          show _ + 2 + _ ≤ _
          omega
        · exact a4 t ht
  obtain ⟨a1, a2, a3, a4, a5⟩ := go kvs h
  refine ⟨a1, a2, Nat.succ_le_succ a3, ?_⟩
  have h1 := piled_le _ a4
  rw [a5] at h1
  have h3 := Nat.mul_le_mul_right (2 * n + 4) hm
  have e2 : (Str.join ", " (PyData.shownKv (kvs.map fun p => (keyD p.1, p.2)))).length ≤ piled (PyData.shownKv (kvs.map fun p => (keyD p.1, p.2))) := by
    by_cases h : PyData.shownKv (kvs.map fun p => (keyD p.1, p.2)) = []
    · rw [h]; decide +kernel
    · have := join_length_add _ h
      omega
  show (dictText _).length ≤ _
  unfold dictText
  rw [strLen_append, strLen_append]
  show 1 + _ + 1 ≤ _
  have : kvs.length * (2 * n + 2 + 2) = kvs.length * (2 * n + 4) := rfl
  omega
end Mw

namespace Mw
open PySem PySem.Spec L2
variable [Tb]
def top (i : Nat) : Stmt := PySem.Challenge.pw_midwalk_k65_lists_and_dicts_as_texts.main.body.getD i (.Pass ⟨0, 0, 0, 0⟩)
structure Free (K : PySem.W.Frag) (mg : Str → Option Value) : Prop where
  «ValueError» : mg "ValueError" = none
  «abs» : mg "abs" = none
  «all» : mg "all" = none
  «bool» : mg "bool" = none
  «dict» : mg "dict" = none
  «enumerate» : mg "enumerate" = none
  «int» : mg "int" = none
  «isinstance» : mg "isinstance" = none
  «len» : mg "len" = none
  «list» : mg "list" = none
  «max» : mg "max" = none
  «min» : mg "min" = none
  «range» : mg "range" = none
  «repr» : mg "repr" = none
  «sorted» : mg "sorted" = none
  «str» : mg "str" = none
  DIGITS : ∃ t, mg "DIGITS" = some (.str "0123456789" t)
  MOST_BROUGHT : ∃ t, mg "MOST_BROUGHT" = some (.int 12 t)
  MOST_KEYS : ∃ t, mg "MOST_KEYS" = some (.int 12 t)
  MOST_VALUES_drops : ∃ t, mg "MOST_VALUES_drops" = some (.int 120 t)
  MOST_VALUES_text : ∃ t, mg "MOST_VALUES_text" = some (.int 120 t)
  cl : ∃ C_InvalidBrings C_InvalidValues : Addr, Cls K mg "InvalidBrings" "key" C_InvalidBrings ∧ Cls K mg "InvalidValues" "index" C_InvalidValues ∧ PySem.W.subIn K (.ref C_InvalidBrings) (.ref C_InvalidValues) = some false ∧ PySem.W.subIn K (.ref C_InvalidValues) (.ref C_InvalidBrings) = some false ∧ C_InvalidBrings ≠ C_InvalidValues
theorem Free.c_InvalidBrings {K : PySem.W.Frag} {mg : Str → Option Value} (T : Free K mg) : ∃ C : Addr, Cls K mg "InvalidBrings" "key" C := by
  obtain ⟨C_InvalidBrings, C_InvalidValues, h, _, _⟩ := T.cl
  exact ⟨_, h⟩
theorem Free.c_InvalidValues {K : PySem.W.Frag} {mg : Str → Option Value} (T : Free K mg) : ∃ C : Addr, Cls K mg "InvalidValues" "index" C := by
  obtain ⟨C_InvalidBrings, C_InvalidValues, _, h, _⟩ := T.cl
  exact ⟨_, h⟩
structure At (K : PySem.W.Frag) (mg : Str → Option Value) (x : Str) (st : Stmt) (ps : List Str) : Prop where
  ex : ∃ f fd, mg x = some (.ref f) ∧ Fun K x x st f fd ∧ Binds K fd ps []
structure AtL (K : PySem.W.Frag) (mg : Str → Option Value) (base : Heap) (x : Str) (st : Stmt) (ps : List Str) : Prop where
  ex : ∃ f fd, mg x = some (.ref f) ∧ Fun K x x st f fd ∧ Binds K fd ps [] ∧ TabOf base mg fd.code (x ++ ".<locals>.")
structure AtD (K : PySem.W.Frag) (mg : Str → Option Value) (x : Str) (st : Stmt) (ps : List Str) (dvs : List V) : Prop where
  ex : ∃ f fd, mg x = some (.ref f) ∧ Fun K x x st f fd ∧ ∃ ds, Vals dvs ds ∧ Binds K fd ps ds
/-- the places that a dropping pass visits, from place p on -/
def vis (m : List Int) : List Int → Int → List Int
  | [], _ => []
  | [_], p => [p]
  | x :: y :: r, p => p :: if x ∈ m then vis m r (p + 2) else vis m (y :: r) (p + 1)
theorem vis_step (m xs : List Int) (p : Nat) (h : p < xs.length) : vis m (xs.drop p) p = (p : Int) :: vis m (xs.drop (p + if xs[p] ∈ m then 2 else 1)) (p + if xs[p] ∈ m then 2 else 1 : Nat) := by
  rw [List.drop_eq_getElem_cons h]
  cases hr : xs.drop (p + 1) with
  | nil =>
    have hl : xs.length ≤ p + 1 := List.drop_eq_nil_iff.mp hr
    split <;> simp [vis, List.drop_eq_nil_iff.mpr hl, List.drop_eq_nil_iff.mpr (Nat.le_succ_of_le hl)]
  | cons y r =>
    have e2 : xs.drop (p + 2) = r := by
      have : xs.drop (p + 2) = (xs.drop (p + 1)).drop 1 := by rw [List.drop_drop]
      rw [this, hr]; rfl
    by_cases hm : xs[p] ∈ m
    · simp [vis, hm, e2]
    · simp [vis, hm, hr]
/-- a whole number -/
def wholeD : PyData → Bool
  | .int _ => true
  | _ => false
theorem nodup_take {a : List Int} {i : Nat} {v : Int} (h : a.Nodup) (hv : a[i]? = some v) : v ∉ a.take i := fun hm => by
  obtain ⟨j, hj, e⟩ := List.getElem_of_mem hm
  obtain ⟨hi, e2⟩ := List.getElem?_eq_some_iff.mp hv
  rw [List.length_take] at hj
  rw [List.getElem_take] at e
  have := (List.getElem_inj h).mp (e.trans e2.symm)
  omega
/-- repeated -/
def itN {α : Type} (f : α → α) : Nat → α → α
  | 0, x => x
  | n + 1, x => f (itN f n x)
theorem itN_inv {α : Type} {f : α → α} {J : Nat → α → Prop} (hs : ∀ i x, J i x → J (i + 1) (f x)) : ∀ (n : Nat) (x : α), J 0 x → J n (itN f n x)
  | 0, _, h => h
  | n + 1, x, h => hs n _ (itN_inv hs n x h)
/-- what stands in the list of draws -/
structure Dr where
  a : Int
  n : Int
  b : Bool
abbrev Dr.ow (s : Dr) : Ow := .lst [.int s.a, .int s.n, .bool s.b]
def drV1 (a k : Int) : Int := ((a % 1000003 + k * k * 7919 + k) * 48271) % 2147483629
def drV2 (x : Int) : Int := (x * x) % 2147483587
def Dr.v (s : Dr) : Int := if s.b then s.a % 1000000 else ((drV2 (drV1 s.a (s.n + 1))) * (drV2 (drV1 s.a (s.n + 1)) + 2)) % 2147483579 / 7
def Dr.nx (s : Dr) : Dr := ⟨if s.b then s.a / 1000000 else s.a, s.n + 1, s.b⟩
/-- how many draws at most so far -/
def Dr.ok (s : Dr) (m : Nat) : Prop := 0 ≤ s.n ∧ s.n ≤ m
theorem Dr.ok.up {s : Dr} {m m' : Nat} (h : s.ok m) (hm : m ≤ m' := by omega) : s.ok m' := ⟨h.1, Int.le_trans h.2 (by exact_mod_cast hm)⟩
theorem Dr.ok.nx {s : Dr} {m : Nat} (h : s.ok m) : s.nx.ok (m + 1) := by
  obtain ⟨h1, h2⟩ := h
  refine ⟨?_, ?_⟩
  · show 0 ≤ s.n + 1; omega
  · show s.n + 1 ≤ ((m + 1 : Nat) : Int); omega
def bigN : Int := ((10 ^ (60 : Int).toNat) ^ (60 : Int).toNat) ^ (4 : Int).toNat
theorem bigN_pos : 0 < bigN := Int.pow_pos (Int.pow_pos (Int.pow_pos (by decide)))
theorem lt_pow_of {i : Int} {b m : Nat} (h : i.natAbs ≤ b) (hb : b < 2 ^ m) : i.natAbs < 2 ^ m := Nat.lt_of_le_of_lt h hb
/-- one argument is changed, the first -/
theorem hio_cons {o o' : Ow} {r : List Sl} (h : plainS r = true) : ∀ m : Nat, (Sl.io 0 o :: r)[m]? = some (.io 0 o) → (Sl.io 0 o' :: r)[m]? = some (.io 0 o')
  | 0, _ => rfl
  | m + 1, e => absurd (by simpa using e) (plain_io (cs := r) (i := m) h)
theorem ioin_cons {o' : Ow} {r sl : List Sl} (h : plainS r = true) (hs : sl[0]? = some (.io 0 o')) : IoIn (.io 0 o' :: r) sl := fun i j o e => by
  cases i with
  | zero => cases e; exact ⟨0, hs⟩
  | succ i => exact absurd (by simpa using e) (plain_io (cs := r) (i := i) h)
abbrev s_law_draws : Stmt := top 24
theorem sc_law_draws : FnScope ["_law_cell"] ["_law_cell"] (defScope s_law_draws) := ⟨rfl, rfl, rfl, by decide +kernel, rfl, by decide +kernel, by decide +kernel⟩
def sp_law_draws : Rel := Pure (α := Int) (fun _ => True) (fun a => [kI a]) (fun a => .fr (Dr.ow ⟨a % bigN, 0, decide ((10 : Int) ^ (18 : Int).toNat ≤ a)⟩))
abbrev D_law_draws (P : Program) (w : World) (K : PySem.W.Frag) (mg : Str → Option Value) (base : Heap) : Prop := DefOk P w K mg base "_law_draws" s_law_draws ["_law_cell"] 1 (Prm K mg sp_law_draws)
set_option linter.unusedVariables false in
theorem b_law_draws {P : Program} {w : World} {K : PySem.W.Frag} {mg : Str → Option Value} {base : Heap} (A : At K mg "_law_draws" s_law_draws ["_law_cell"]) (T : Free K mg)  : D_law_draws P w K mg base := by
  obtain ⟨f, fd, hm, F, hb⟩ := A
  refine ⟨f, fd, hm, F, hb, pure_fn F sc_law_draws (fun a => rfl) (fun a => rfl) (fun a => rfl) fun E B a ha => ?_⟩
  have nd : (["_law_cell"] : List Str).Nodup := sc_law_draws.nd
  have c1 : CPowW 10 60 := pow_ok 4 (by decide) (by decide) (by decide) (by decide)
  have c2 : CPowW (10 ^ (60 : Int).toNat) 60 := pow_ok (4 * 60) (natAbs_pow_lt 60 (by decide) (by decide)) (by decide) (by decide) (by decide)
  have c3 : CPowW ((10 ^ (60 : Int).toNat) ^ (60 : Int).toNat) 4 := pow_ok (4 * 60 * 60) (natAbs_pow_lt 60 (natAbs_pow_lt 60 (by decide) (by decide)) (by decide)) (by decide) (by decide) (by decide)
  have c4 : CPowW 10 18 := pow_ok 4 (by decide) (by decide) (by decide) (by decide)
  exact go_ret (ev_lst (av_cons (ev_mod (j := bigN) (ev_intI (ev_val 0) T.int) (ev_pow (ev_pow (ev_pow ev_int ev_int c1) ev_int c2) ev_int c3) bigN_pos) (av_cons ev_int (av_cons (cm_ge (ev_val 0) (ev_pow ev_int ev_int c4)).ev av_nil))) (.cons (.cons (.cons .nil)))) rfl
abbrev s_law_next : Stmt := top 25
theorem sc_law_next : FnScope ["_law_draws_here", "_law_k", "_law_number"] ["_law_draws_here"] (defScope s_law_next) := ⟨rfl, rfl, rfl, by decide +kernel, rfl, by decide +kernel, by decide +kernel⟩
def sp_law_next : Rel := Chg (α := Dr) (fun s => s.ok 1000000000) (fun s => [.io 0 s.ow]) (fun s => .st (.int s.v)) (fun s => [.io 0 s.nx.ow])
abbrev D_law_next (P : Program) (w : World) (K : PySem.W.Frag) (mg : Str → Option Value) (base : Heap) : Prop := DefOk P w K mg base "_law_next" s_law_next ["_law_draws_here"] 1 (Prm K mg sp_law_next)
set_option linter.unusedVariables false in
theorem b_law_next {P : Program} {w : World} {K : PySem.W.Frag} {mg : Str → Option Value} {base : Heap} (A : At K mg "_law_next" s_law_next ["_law_draws_here"]) (T : Free K mg)  : D_law_next P w K mg base := by
  obtain ⟨f, fd, hm, F, hb⟩ := A
  refine ⟨f, fd, hm, F, hb, chg_fn F sc_law_next (fun a => rfl) (fun a => .io .nil) (fun a => rfl) fun E B a ha => ?_⟩
  have nd : (["_law_draws_here", "_law_k", "_law_number"] : List Str).Nodup := sc_law_next.nd
  obtain ⟨x, n, b⟩ := a
  obtain ⟨h1, h2⟩ := ha
  have h1 : 0 ≤ n := h1
  have h2 : n ≤ 1000000000 := h2
  have c6 : CPowW 10 6 := pow_ok 4 (by decide) (by decide) (by decide) (by decide)
  refine go_setItem 0 (j := 1) (ev_add (ev_ix (ev_own 0) ev_int .ls rfl) ev_int) ev_int rfl ?_
  refine go_set 1 (ev_ix (ev_own 0) ev_int .ls rfl) ?_
  refine go_leave (tv_val (ev_ix (ev_own 0) ev_int .ls rfl)) (fun hb => ?_) fun hb => ?_
  · subst hb
    refine go_set 2 (ev_mod (ev_intI (ev_ix (ev_own 0) ev_int .ls rfl) T.int) (ev_pow ev_int ev_int c6) (by decide)) ?_
    refine go_setItem 0 (j := 0) (ev_div (ev_ix (ev_own 0) ev_int .ls rfl) (ev_pow ev_int ev_int c6) (by decide)) ev_int rfl ?_
    exact go_ret (ev_val 2) ⟨rfl, ioin_cons rfl rfl⟩
  · subst hb
    have k1 : CMulW (n + 1) (n + 1) := mul_ok 40 40 (by omega) (by omega)
    have hb0 : 0 ≤ (n + 1) * (n + 1) := Int.mul_nonneg (by omega) (by omega)
    have hb1 : (n + 1) * (n + 1) ≤ 1000000001 * 1000000001 := Int.mul_le_mul (by omega) (by omega) (by omega) (by decide)
    have k2 : CMulW ((n + 1) * (n + 1)) 7919 := mul_ok 80 20 (by omega) (by decide)
    have hm := Int.emod_nonneg x (show (1000003 : Int) ≠ 0 by decide)
    have hm2 := Int.emod_lt_of_pos x (show (0 : Int) < 1000003 by decide)
    have k3 : CMulW (x % 1000003 + (n + 1) * (n + 1) * 7919 + (n + 1)) 48271 := mul_ok 100 20 (by omega) (by decide)
    have g1 : 0 ≤ drV1 x (n + 1) := Int.emod_nonneg _ (by decide)
    have g2 : drV1 x (n + 1) < 2147483629 := Int.emod_lt_of_pos _ (by decide)
    have k4 : CMulW (drV1 x (n + 1)) (drV1 x (n + 1)) := mul_ok 40 40 (by omega) (by omega)
    have g3 : 0 ≤ drV2 (drV1 x (n + 1)) := Int.emod_nonneg _ (by decide)
    have g4 : drV2 (drV1 x (n + 1)) < 2147483587 := Int.emod_lt_of_pos _ (by decide)
    have k5 : CMulW (drV2 (drV1 x (n + 1))) (drV2 (drV1 x (n + 1)) + 2) := mul_ok 40 40 (by omega) (by omega)
    refine go_set 2 ((ev_mod (ev_intI (ev_mul (ev_add (ev_add (ev_mod (ev_intI (ev_ix (ev_own 0) ev_int .ls rfl) T.int) ev_int (by decide)) (ev_mul (ev_mul (ev_val 1) (ev_val 1) k1) ev_int k2)) (ev_val 1)) ev_int k3) T.int) ev_int (by decide)).to (k' := .st (.int (drV1 x (n + 1)))) rfl) ?_
    refine go_set 2 ((ev_mod (ev_intI (ev_mul (ev_val 2) (ev_val 2) k4) T.int) ev_int (by decide)).to (k' := .st (.int (drV2 (drV1 x (n + 1))))) rfl) ?_
    exact go_ret (ev_div (ev_mod (ev_intI (ev_mul (ev_val 2) (ev_add (ev_val 2) ev_int) k5) T.int) ev_int (by decide)) ev_int (by decide)) ⟨rfl, ioin_cons rfl rfl⟩
def addNew (t : List Int) (v : Int) : List Int := t ++ (List.replicate (if v ∈ t then 0 else 1) [v]).flatten
def mkStep (m : Int) (x : List Int × Dr) : List Int × Dr := (addNew x.1 (x.2.v % m - 1), x.2.nx)
theorem addNew_nums (t : List Int) (v : Int) : nums (addNew t v) = nums t ++ (List.replicate (if (!decide (v ∈ t)) = true then (1 : Int) else 0).toNat [PyData.int v]).flatten := by
  unfold addNew
  rw [← nums_app]
  by_cases h : v ∈ t <;> simp [h, nums]
/-- marks with most at most, or more -/
def mkWide (most : Int) (s : Dr) : Bool := decide (3 < most) && decide (s.v % 4 = 0)
def mkDr (most : Int) (s : Dr) : Dr := if 3 < most then s.nx else s
def mkMany (most : Int) (s : Dr) : Nat := ((mkDr most s).v % ((if mkWide most s then 12 else most) + 1)).toNat
def mkAll (most : Int) (s : Dr) : List Int × Dr := itN (mkStep (if mkWide most s then 16 else 6)) (mkMany most s) ([], (mkDr most s).nx)
/-- good marks -/
def okM (t : List Int) : Prop := t.Nodup ∧ ∀ x ∈ t, -1 ≤ x ∧ x ≤ 14
theorem addNew_ok {t : List Int} {v : Int} (h : okM t) (hv : -1 ≤ v ∧ v ≤ 14) : okM (addNew t v) := by
  unfold addNew
  by_cases hm : v ∈ t
  · rw [if_pos hm]; simpa using h
  · rw [if_neg hm]
    show okM (t ++ [v])
    refine ⟨List.nodup_append.mpr ⟨h.1, by simp, fun a ha b hb e => ?_⟩, fun x hx => ?_⟩
    · rw [List.mem_singleton] at hb
      subst hb
      subst e
      exact hm ha
    · rcases List.mem_append.mp hx with hx | hx
      · exact h.2 x hx
      · rw [List.mem_singleton] at hx
        rw [hx]; exact hv
theorem addNew_len (t : List Int) (v : Int) : (addNew t v).length ≤ t.length + 1 := by
  unfold addNew
  by_cases hm : v ∈ t <;> simp [hm]
theorem mkIt (m : Int) (hm : 0 < m ∧ m ≤ 16) (s : Dr) (n i : Nat) (hs : s.ok n) : okM (itN (mkStep m) i ([], s)).1 ∧ (itN (mkStep m) i ([], s)).1.length ≤ i ∧ (itN (mkStep m) i ([], s)).2.ok (n + i) := by
  refine itN_inv (J := fun (i : Nat) (x : List Int × Dr) => okM x.1 ∧ x.1.length ≤ i ∧ x.2.ok (n + i)) (fun i x h => ?_) i _ ⟨⟨by simp, by simp⟩, Nat.le_refl _, hs⟩
  obtain ⟨h1, h2, h3⟩ := h
  refine ⟨addNew_ok h1 ?_, Nat.le_trans (addNew_len _ _) (by omega), h3.nx⟩
  have a1 := Int.emod_nonneg x.2.v (show m ≠ 0 by omega)
  have a2 := Int.emod_lt_of_pos x.2.v hm.1
  omega
theorem mkMany_le (most : Int) (s : Dr) (h0 : 0 ≤ most ∧ most ≤ 12) : mkMany most s ≤ 12 := by
  unfold mkMany
  have a1 := Int.emod_lt_of_pos (mkDr most s).v (show 0 < (if mkWide most s then 12 else most) + 1 by split <;> omega)
  have : (if mkWide most s then 12 else most) + 1 ≤ 13 := by split <;> omega
  omega
theorem mkDr_ok {most : Int} {s : Dr} {n : Nat} (h : s.ok n) : (mkDr most s).ok (n + 1) := by
  unfold mkDr
  split
  · exact h.nx
  · exact h.up
theorem mkAll_ok (most : Int) (s : Dr) (n : Nat) (h0 : 0 ≤ most ∧ most ≤ 12) (hs : s.ok n) : okM (mkAll most s).1 ∧ (mkAll most s).1.length ≤ 12 ∧ (mkAll most s).2.ok (n + 14) := by
  have := mkIt (if mkWide most s then 16 else 6) (by split <;> decide) _ _ (mkMany most s) (mkDr_ok (most := most) hs).nx
  have h2 := mkMany_le most s h0
  exact ⟨this.1, Nat.le_trans this.2.1 h2, this.2.2.up⟩
-- CUT
/-! texts as lists of signs: words, numbers -/
def digL : List Nat := [48, 49, 50, 51, 52, 53, 54, 55, 56, 57]
theorem digL_bd {c : Nat} (h : c ∈ digL) : 48 ≤ c ∧ c ≤ 57 := by
  simp only [digL, List.mem_cons, List.not_mem_nil, or_false] at h
  omega
def figL (w : List Nat) : List Nat := if w.take 1 = [45] then w.drop 1 else w
def allDig (f : List Nat) : Bool := (f.map fun c => decide (c ∈ digL)).all id
theorem allDig_of {f : List Nat} (h : allDig f = true) : PySem.NumText.AllDigits f := fun c hc => by
  have := List.all_eq_true.mp h (decide (c ∈ digL)) (List.mem_map.mpr ⟨c, hc, rfl⟩)
  exact digL_bd (of_decide_eq_true this)
def numV (w : List Nat) : Int := if w.take 1 = [45] then -(PySem.NumText.digitsVal (w.drop 1) : Int) else (PySem.NumText.digitsVal w : Int)
def numF (w : List Nat) : Option Int := if (decide (figL w = []) || !allDig (figL w)) = true then none else if (decide ((figL w).take 1 = [48]) && !decide (w = [48])) = true then none else some (numV w)
theorem take1_cons {w : List Nat} {c : Nat} (h : w.take 1 = [c]) : ∃ r, w = c :: r := by
  cases w with
  | nil => cases h
  | cons a r => cases h; exact ⟨r, rfl⟩
theorem int_tx {w : List Nat} (hl : w.length ≤ 640) (h1 : figL w ≠ []) (h2 : allDig (figL w) = true) : PySem.intText? (tx w) = some (numV w) := by
  unfold numV figL at *
  by_cases e : w.take 1 = [45]
  · rw [if_pos e] at h1 h2 ⊢
    obtain ⟨r, rfl⟩ := take1_cons e
    exact PySem.intText_neg (x := tx (45 :: r)) rfl (allDig_of h2) h1 (Nat.le_trans hl (by decide))
  · rw [if_neg e] at h1 h2 ⊢
    exact PySem.intText_digits (x := tx w) (allDig_of h2) h1 (Nat.le_trans hl (by decide))
theorem digVal_lt : ∀ (f : List Nat) (acc : Nat), PySem.NumText.AllDigits f → f.foldl (fun acc c => acc * 10 + (c - 48)) acc < (acc + 1) * 10 ^ f.length
  | [], acc, _ => by simp
  | c :: r, acc, h => by
    have h1 := h c List.mem_cons_self
    have := digVal_lt r (acc * 10 + (c - 48)) fun x hx => h x (List.mem_cons_of_mem _ hx)
    rw [List.foldl_cons, List.length_cons, Nat.pow_succ']
    refine Nat.lt_of_lt_of_le this ?_
    rw [← Nat.mul_assoc]
    exact Nat.mul_le_mul_right _ (by omega)
theorem numV_lt {w : List Nat} {k : Nat} (hl : w.length ≤ k) (h2 : allDig (figL w) = true) : (numV w).natAbs < 10 ^ k := by
  unfold numV figL at *
  by_cases e : w.take 1 = [45]
  · rw [if_pos e] at h2 ⊢
    have := digVal_lt _ 0 (allDig_of h2)
    rw [Nat.zero_add, Nat.one_mul] at this
    rw [Int.natAbs_neg, Int.natAbs_natCast]
    exact Nat.lt_of_lt_of_le this (Nat.pow_le_pow_right (by decide) (by rw [List.length_drop]; omega))
  · rw [if_neg e] at h2 ⊢
    have := digVal_lt _ 0 (allDig_of h2)
    rw [Nat.zero_add, Nat.one_mul] at this
    rw [Int.natAbs_natCast]
    exact Nat.lt_of_lt_of_le this (Nat.pow_le_pow_right (by decide) hl)
theorem numF_lt {w : List Nat} {k : Nat} {i : Int} (hl : w.length ≤ k) (h : numF w = some i) : i.natAbs < 10 ^ k := by
  unfold numF at h
  split at h
  · cases h
  rename_i h1
  split at h
  · cases h
  cases h
  refine numV_lt hl ?_
  cases hh : allDig (figL w) with
  | true => rfl
  | false => rw [hh] at h1; simp at h1
def optI : Option Int → PyData
  | none => .none
  | some i => .int i
def optL : Option (List Int) → PyData
  | none => .none
  | some xs => .list (nums xs)
def numsF : List (List Nat) → Option (List Int)
  | [] => some []
  | w :: r => match numF w, numsF r with
    | some i, some t => some (i :: t)
    | _, _ => none
theorem flat_optI (o : Option Int) : flatD (optI o) = true := by cases o <;> rfl
theorem numsF_some : ∀ {ws : List (List Nat)} {xs : List Int}, numsF ws = some xs → ws.map (fun w => optI (numF w)) = nums xs
  | [], xs, h => by cases h; rfl
  | w :: r, xs, h => by
    unfold numsF at h
    cases e1 : numF w with
    | none => rw [e1] at h; cases h
    | some i =>
      cases e2 : numsF r with
      | none => rw [e1, e2] at h; cases h
      | some t =>
        rw [e1, e2] at h
        cases h
        rw [List.map_cons, e1, numsF_some e2]; rfl
theorem numsF_len : ∀ {ws : List (List Nat)} {xs : List Int}, numsF ws = some xs → xs.length = ws.length := fun h => by
  have := congrArg List.length (numsF_some h)
  rw [List.length_map, len_nums] at this
  exact this.symm
theorem numsF_mem : ∀ {ws : List (List Nat)} {xs : List Int} {i : Int}, numsF ws = some xs → i ∈ xs → ∃ w ∈ ws, numF w = some i
  | [], xs, i, h, hi => by cases h; cases hi
  | w :: r, xs, i, h, hi => by
    unfold numsF at h
    cases e1 : numF w with
    | none => rw [e1] at h; cases h
    | some j =>
      cases e2 : numsF r with
      | none => rw [e1, e2] at h; cases h
      | some t =>
        rw [e1, e2] at h
        cases h
        rcases List.mem_cons.mp hi with rfl | hi
        · exact ⟨w, List.mem_cons_self, e1⟩
        · obtain ⟨v, hv, e⟩ := numsF_mem e2 hi
          exact ⟨v, List.mem_cons_of_mem _ hv, e⟩
theorem inD_opt : ∀ ws : List (List Nat), inD .none (ws.map fun w => optI (numF w)) = (numsF ws).isNone
  | [] => rfl
  | w :: r => by
    have ih := inD_opt r
    unfold numsF
    cases e1 : numF w with
    | none =>
      rw [List.map_cons, e1]
      show inV .non (.non :: _) = true
      rfl
    | some i =>
      rw [List.map_cons, e1]
      show inV .non (.int i :: _) = _
      have : inV .non (.int i :: ((r.map fun w => optI (numF w)).map toV)) = inV .non ((r.map fun w => optI (numF w)).map toV) := rfl
      rw [this]
      have ih' : inV .non ((r.map fun w => optI (numF w)).map toV) = (numsF r).isNone := ih
      rw [ih']
      cases numsF r <;> rfl
/-! ### parts -/
def sp (s : Nat) : List Nat → List (List Nat)
  | [] => [[]]
  | c :: r => if c = s then [] :: sp s r else match sp s r with
    | p :: q => (c :: p) :: q
    | [] => [[c]]
theorem sp_cons (s : Nat) : ∀ l : List Nat, ∃ p q, sp s l = p :: q
  | [] => ⟨[], [], rfl⟩
  | c :: r => by
    obtain ⟨p, q, e⟩ := sp_cons s r
    unfold sp
    by_cases h : c = s
    · rw [if_pos h]; exact ⟨_, _, rfl⟩
    · rw [if_neg h, e]; exact ⟨_, _, rfl⟩
theorem spl_sp (s : Nat) : ∀ (l acc : List Nat) (p : List Nat) (q : List (List Nat)), sp s l = p :: q → TL.spl [s] 0 acc l = (acc ++ p) :: q
  | [], acc, p, q, h => by
    cases h
    rw [TL.spl_nil, List.append_nil]
  | c :: r, acc, p, q, h => by
    obtain ⟨p1, q1, e⟩ := sp_cons s r
    unfold sp at h
    by_cases hc : c = s
    · rw [if_pos hc] at h
      cases h
      have hp : TL.pre [s] (c :: r) = true := by rw [hc]; exact TL.pre_self [s] r
      rw [TL.spl_hit hp]
      show acc :: TL.spl [s] 0 [] r = _
      rw [spl_sp s r [] p1 q1 e, e]
      simp
    · rw [if_neg hc, e] at h
      rw [← (List.cons.inj h).1, ← (List.cons.inj h).2, TL.spl_miss (TL.pre_of_head [] r hc), spl_sp s r (acc ++ [c]) p1 q1 e, List.append_assoc]
      rfl
theorem splitL_sp (s : Nat) (l : List Nat) : splitL s l = sp s l := by
  obtain ⟨p, q, e⟩ := sp_cons s l
  unfold splitL
  rw [spl_sp s l [] p q e, e, List.nil_append]
theorem join_cons {S : List Nat} {p : List Nat} {q : List (List Nat)} (h : q ≠ []) : TL.joinL S (p :: q) = p ++ (S ++ TL.joinL S q) := by
  cases q with
  | nil => exact absurd rfl h
  | cons a r => rfl
theorem join_sp (s : Nat) : ∀ l : List Nat, TL.joinL [s] (sp s l) = l
  | [] => rfl
  | c :: r => by
    obtain ⟨p1, q1, e⟩ := sp_cons s r
    have ih := join_sp s r
    unfold sp
    by_cases hc : c = s
    · rw [if_pos hc, join_cons (by rw [e]; simp), ih, hc]; rfl
    · rw [if_neg hc, e]
      rw [e] at ih
      show TL.joinL [s] ((c :: p1) :: q1) = _
      by_cases hq : q1 = []
      · subst hq
        have ih : p1 = r := ih
        show c :: p1 = _
        rw [ih]
      · rw [join_cons hq] at ih ⊢
        rw [List.cons_append, ih]
theorem sp_free {s : Nat} : ∀ {l p : List Nat}, p ∈ sp s l → s ∉ p
  | [], p, h => by
    have h : p ∈ [[]] := h
    rw [List.mem_singleton.mp h]; simp
  | c :: r, p, h => by
    obtain ⟨p1, q1, e⟩ := sp_cons s r
    unfold sp at h
    by_cases hc : c = s
    · rw [if_pos hc] at h
      rcases List.mem_cons.mp h with rfl | h
      · simp
      · exact sp_free h
    · rw [if_neg hc, e] at h
      rcases List.mem_cons.mp h with rfl | h
      · have := sp_free (p := p1) (by rw [e]; exact List.mem_cons_self)
        simp only [List.mem_cons, not_or]
        exact ⟨fun z => hc z.symm, this⟩
      · exact sp_free (by rw [e]; exact List.mem_cons_of_mem _ h)
theorem join_infix {S : List Nat} : ∀ {ls : List (List Nat)} {p : List Nat}, p ∈ ls → ∃ a b, TL.joinL S ls = a ++ (p ++ b)
  | q :: r, p, h => by
    by_cases hr : r = []
    · subst hr
      rw [List.mem_singleton.mp h]
      exact ⟨[], [], by simp [TL.joinL]⟩
    · rw [join_cons hr]
      rcases List.mem_cons.mp h with rfl | h
      · exact ⟨[], S ++ TL.joinL S r, rfl⟩
      · obtain ⟨a, b, e⟩ := join_infix (S := S) h
        exact ⟨q ++ (S ++ a), b, by rw [e]; simp⟩
theorem join_len {s : Nat} : ∀ ls : List (List Nat), ls ≠ [] → (TL.joinL [s] ls).length + 1 = (ls.map List.length).sum + ls.length
  | [p], _ => by simp [TL.joinL]
  | p :: q :: r, _ => by
    have := join_len (s := s) (q :: r) (by simp)
    rw [join_cons (by simp)]
    simp only [List.length_append, List.map_cons, List.sum_cons, List.length_cons, List.length_nil] at this ⊢
    omega
theorem sp_len (s : Nat) (l : List Nat) : ((sp s l).map List.length).sum + (sp s l).length = l.length + 1 := by
  obtain ⟨p, q, e⟩ := sp_cons s l
  rw [← join_len (s := s) _ (by rw [e]; simp), join_sp]
/-- no word is longer than W -/
def Wd (W : Nat) (t : List Nat) : Prop := ∀ a u b, t = a ++ (u ++ b) → 32 ∉ u → 10 ∉ u → u.length ≤ W
theorem Wd.infix {W : Nat} {t x p q : List Nat} (h : Wd W t) (e : t = p ++ (x ++ q)) : Wd W x := fun a u b e2 => h (p ++ a) u (b ++ q) (by rw [e, e2]; simp)
theorem Wd.len {t : List Nat} : Wd t.length t := fun a u b e _ _ => by
  have := congrArg List.length e
  simp only [List.length_append] at this
  omega
theorem Wd.mono {W V : Nat} {t : List Nat} (h : Wd W t) (hw : W ≤ V) : Wd V t := fun a u b e h1 h2 => Nat.le_trans (h a u b e h1 h2) hw
theorem Wd.of {W : Nat} {t : List Nat} (h : t.length ≤ W) : Wd W t := Wd.len.mono h
theorem Wd.take {W : Nat} {t : List Nat} (h : Wd W t) (n : Nat) : Wd W (t.take n) := h.infix (p := []) (q := t.drop n) (by simp)
theorem Wd.drop {W : Nat} {t : List Nat} (h : Wd W t) (n : Nat) : Wd W (t.drop n) := h.infix (p := t.take n) (q := []) (by simp)
theorem cut_app (x y : List Nat) (m n : Nat) : ((x ++ y).drop m).take n = (x.drop m).take n ++ (y.drop (m - x.length)).take (n - (x.drop m).length) := by
  rw [List.drop_append, List.take_append]
theorem infix_cut {t a u b : List Nat} (e : t = a ++ (u ++ b)) : u = (t.drop a.length).take u.length := by
  rw [e, List.drop_left, List.take_left]
theorem cut_infix (x : List Nat) (m n : Nat) : x = x.take m ++ ((x.drop m).take n ++ (x.drop m).drop n) := by
  rw [List.take_append_drop, List.take_append_drop]
theorem Wd.app {W V : Nat} {x y : List Nat} (h : Wd W x) (k : Wd V y) : Wd (W + V) (x ++ y) := fun a u b e h1 h2 => by
  have e1 := infix_cut e
  rw [cut_app] at e1
  generalize hx : (x.drop a.length).take u.length = u1 at e1
  generalize hy : (y.drop (a.length - x.length)).take (u.length - (x.drop a.length).length) = u2 at e1
  have m1 : u1.length ≤ W := h _ u1 _ (by rw [← hx]; exact cut_infix x _ _) (fun z => h1 (by rw [e1]; exact List.mem_append_left _ z)) fun z => h2 (by rw [e1]; exact List.mem_append_left _ z)
  have m2 : u2.length ≤ V := k _ u2 _ (by rw [← hy]; exact cut_infix y _ _) (fun z => h1 (by rw [e1]; exact List.mem_append_right _ z)) fun z => h2 (by rw [e1]; exact List.mem_append_right _ z)
  rw [e1, List.length_append]
  omega
theorem Wd.sep {W : Nat} {x y : List Nat} {s : Nat} (h : Wd W x) (k : Wd W y) (hs : s = 32 ∨ s = 10) : Wd W (x ++ ([s] ++ y)) := fun a u b e h1 h2 => by
  have hsu : s ∉ u := by rcases hs with rfl | rfl <;> assumption
  rcases List.append_eq_append_iff.mp e with ⟨c, e1, e2⟩ | ⟨c, e1, e2⟩
  · cases c with
    | nil =>
      cases u with
      | nil => exact Nat.zero_le _
      | cons d u =>
        have : s = d := (List.cons.inj (show s :: y = d :: (u ++ b) from e2)).1
        exact absurd (by rw [this]; exact List.mem_cons_self) hsu
    | cons d c =>
      have : y = c ++ (u ++ b) := (List.cons.inj (show s :: y = d :: (c ++ (u ++ b)) from e2)).2
      exact k c u b this h1 h2
  · rcases List.append_eq_append_iff.mp e2 with ⟨f, g1, g2⟩ | ⟨f, g1, g2⟩
    · exact h a u f (by rw [e1, g1]) h1 h2
    · cases f with
      | nil => exact h a u [] (by rw [e1, g1]; simp) h1 h2
      | cons d f =>
        have : s = d := (List.cons.inj (show s :: y = d :: (f ++ b) from g2)).1
        exact absurd (by rw [g1, this]; simp) hsu
theorem Wd.join {W s : Nat} (hs : s = 32 ∨ s = 10) : ∀ {ls : List (List Nat)}, (∀ l ∈ ls, Wd W l) → Wd W (TL.joinL [s] ls)
  | [], _ => fun a u b e _ _ => by
    have := congrArg List.length e
    simp only [TL.joinL, List.length_append, List.length_nil] at this
    omega
  | [p], h => h p List.mem_cons_self
  | p :: q :: r, h => by
    rw [join_cons (by simp)]
    exact (h p List.mem_cons_self).sep (Wd.join hs fun l hl => h l (List.mem_cons_of_mem _ hl)) hs
theorem Wd.part {W s : Nat} {t p : List Nat} (h : Wd W t) (hp : p ∈ sp s t) : Wd W p := by
  obtain ⟨a, b, e⟩ := join_infix (S := [s]) hp
  rw [join_sp] at e
  exact h.infix e
theorem sp_word {W : Nat} {t p : List Nat} (h : Wd W t) (hn : 10 ∉ t) (hp : p ∈ sp 32 t) : p.length ≤ W := by
  obtain ⟨a, b, e⟩ := join_infix (S := [32]) hp
  rw [join_sp] at e
  exact h a p b e (sp_free hp) fun z => hn (by rw [e]; simp [z])
/-- a text that may be read -/
structure OkT (t : List Nat) : Prop where
  len : t.length ≤ 8000
  wd : Wd 300 t
  sg : ∀ c ∈ t, c < 1114112
theorem OkT.part {s : Nat} {t p : List Nat} (h : OkT t) (hp : p ∈ sp s t) : OkT p := by
  obtain ⟨a, b, e⟩ := join_infix (S := [s]) hp
  rw [join_sp] at e
  refine ⟨?_, h.wd.part hp, fun c hc => h.sg c (by rw [e]; simp [hc])⟩
  have := congrArg List.length e
  have := h.len
  simp only [List.length_append] at *
  omega
theorem sp_many {s : Nat} {t : List Nat} (h : t.length ≤ 8000) : (sp s t).length ≤ 8001 := by
  have := sp_len s t
  omega
/-! ### what is read -/
def optP : Option (Int × List Int) → PyData
  | none => .none
  | some (k, vs) => .tuple [.int k, .list (nums vs)]
/-- a line -/
def lineW (w : List Nat) (ws : List (List Nat)) : Option (Int × List Int) :=
  if w.drop (w.length - 1) = [58] then match numsF (w.dropLast :: ws) with
    | some (k :: vs) => if vs.length ≤ 12 then some (k, vs) else none
    | _ => none
  else none
def lineF (l : List Nat) : Option (Int × List Int) := match sp 32 l with
  | w :: ws => lineW w ws
  | [] => none
def xTx (d : PyData) : Exn := ⟨"InvalidText", some ("line", d)⟩
def outO : Except PyData PyData → Out
  | .error d => .exn (xTx d)
  | .ok d => .ret (.st d)
theorem outO_lam (x : Except PyData PyData) : LamO (outO x) := by
  cases x with
  | error d => exact .inr ⟨_, rfl⟩
  | ok d => exact .inl ⟨_, rfl⟩
def valsF (l : List Nat) : Option (List Int) := if l = [] then some [] else numsF (sp 32 l)
def pvL (l : List Nat) : Except PyData PyData :=
  if 10 ∈ l then .error .none else match valsF l with
    | some xs => if xs.length ≤ 120 then .ok (.list (nums xs)) else .error (.int 0)
    | none => .error (.int 0)
def pvO : PyData → Except PyData PyData
  | .str x => pvL (TL.tl x)
  | _ => .error .none
def badK (t : List (Int × List Int)) (k : Int) : Bool := match t.getLast? with
  | some p => decide (k ≤ p.1)
  | none => false
def goB : Nat → List (Int × List Int) → List (List Nat) → Except Nat (List (Int × List Int))
  | _, t, [] => .ok t
  | i, t, l :: r => match lineF l with
    | none => .error i
    | some (k, vs) => if badK t k = true then .error i else goB (i + 1) (t ++ [(k, vs)]) r
def linesL (l : List Nat) : List (List Nat) := if l = [] then [] else sp 10 l
def pbK (kvs : List (Int × List Int)) : List (Key × PyData) := kvs.map fun p => (.inl p.1, .list (nums p.2))
def pbL (l : List Nat) : Except PyData PyData :=
  if 12 < (linesL l).length then .error .none else match goB 0 [] (linesL l) with
    | .error i => .error (.int (i : Nat))
    | .ok t => .ok (dD (pbK t))
def pbO : PyData → Except PyData PyData
  | .str x => pbL (TL.tl x)
  | _ => .error .none
/-- things that are handed in -/
def okIn (d : PyData) : Prop := plnD d = true ∧ ∀ x, d = .str x → OkT (TL.tl x)
/-! the texts of lists and dicts, and what they are read as -/
theorem numL_lo {n : Nat} (h : n < 10) : TL.numL n = [48 + n] := TL.numL_lt h
theorem numL_hi {n : Nat} (h : 10 ≤ n) : TL.numL n = TL.numL (n / 10) ++ [48 + n % 10] := TL.numL_step h
theorem numL_head (n : Nat) : 0 < n → (TL.numL n).take 1 ≠ [48] := by
  induction n using Nat.strongRecOn with
  | _ n ih =>
    intro h0
    by_cases h : n < 10
    · rw [numL_lo h]
      intro e
      have : 48 + n = 48 := (List.cons.inj (show [48 + n] = [48] from e)).1
      omega
    · rw [numL_hi (by omega)]
      obtain ⟨c, r, e⟩ := List.exists_cons_of_ne_nil (TL.numL_ne (n / 10))
      have := ih (n / 10) (by omega) (by omega)
      rw [e] at this ⊢
      exact this
theorem strI_nat (n : Nat) : strI (n : Int) = TL.numL n := TL.tl_num n
theorem strI_neg (n : Nat) : strI (Int.negSucc n) = 45 :: TL.numL (n + 1) := by
  have e := TL.tl_num (n + 1)
  rw [TL.tl_ofString] at e
  show TL.tl (Str.ofString ("-" ++ Nat.repr (n + 1))) = _
  rw [TL.tl_ofString, String.toList_append, List.map_append, ← e]; rfl
theorem numL_sg {n c : Nat} (h : c ∈ TL.numL n) : 48 ≤ c ∧ c ≤ 57 := TL.numL_digits n c h
theorem int_or (i : Int) : (∃ n : Nat, i = (n : Int)) ∨ ∃ n : Nat, i = Int.negSucc n := by
  cases i with
  | ofNat n => exact .inl ⟨n, rfl⟩
  | negSucc n => exact .inr ⟨n, rfl⟩
theorem strI_sg2 {i : Int} {c : Nat} (h : c ∈ strI i) : c = 45 ∨ (48 ≤ c ∧ c ≤ 57) := by
  rcases int_or i with ⟨n, rfl⟩ | ⟨n, rfl⟩
  · rw [strI_nat] at h; exact .inr (numL_sg h)
  · rw [strI_neg] at h
    rcases List.mem_cons.mp h with h | h
    · exact .inl h
    · exact .inr (numL_sg h)
theorem strI_ne (i : Int) : strI i ≠ [] := by
  rcases int_or i with ⟨n, rfl⟩ | ⟨n, rfl⟩
  · rw [strI_nat]; exact TL.numL_ne n
  · rw [strI_neg]; simp
theorem allDig_num (n : Nat) : allDig (TL.numL n) = true := by
  unfold allDig
  refine List.all_eq_true.mpr fun b hb => ?_
  obtain ⟨c, hc, rfl⟩ := List.mem_map.mp hb
  have := numL_sg hc
  have hm : c ∈ digL := by
    have : c = 48 ∨ c = 49 ∨ c = 50 ∨ c = 51 ∨ c = 52 ∨ c = 53 ∨ c = 54 ∨ c = 55 ∨ c = 56 ∨ c = 57 := by omega
    rcases this with rfl | rfl | rfl | rfl | rfl | rfl | rfl | rfl | rfl | rfl <;> decide
  exact decide_eq_true hm
theorem numL_zero {n : Nat} (h : (TL.numL n).take 1 = [48]) : TL.numL n = [48] := by
  cases n with
  | zero => exact numL_lo (by decide)
  | succ n => exact absurd h (numL_head _ (Nat.succ_pos n))
theorem numL_min (n : Nat) : (TL.numL n).take 1 ≠ [45] := fun h => by
  obtain ⟨r, e⟩ := take1_cons h
  have := numL_sg (n := n) (c := 45) (by rw [e]; simp)
  omega
theorem numF_str (i : Int) : numF (strI i) = some i := by
  rcases int_or i with ⟨n, rfl⟩ | ⟨n, rfl⟩
  · rw [strI_nat]
    have hf : figL (TL.numL n) = TL.numL n := if_neg (numL_min n)
    have hv : numV (TL.numL n) = n := by unfold numV; rw [if_neg (numL_min n), TL.numL_val]
    unfold numF
    rw [hf, hv, allDig_num, decide_eq_false (TL.numL_ne n)]
    rw [if_neg (by decide), if_neg]
    rw [Bool.and_eq_true]
    intro ⟨h1, h2⟩
    rw [numL_zero (of_decide_eq_true h1)] at h2
    exact absurd h2 (by decide)
  · rw [strI_neg]
    have hf : figL (45 :: TL.numL (n + 1)) = TL.numL (n + 1) := rfl
    have hv : numV (45 :: TL.numL (n + 1)) = Int.negSucc n := by
      unfold numV
      rw [if_pos (show (45 :: TL.numL (n + 1)).take 1 = [45] from rfl), List.drop_one, List.tail_cons, TL.numL_val]; rfl
    unfold numF
    rw [hf, hv, allDig_num, decide_eq_false (TL.numL_ne (n + 1)), decide_eq_false (numL_head (n + 1) (Nat.succ_pos n))]
    rw [if_neg (by decide), Bool.false_and, if_neg (by decide)]
theorem numsF_str : ∀ xs : List Int, numsF (xs.map strI) = some xs
  | [] => rfl
  | x :: r => by
    rw [List.map_cons]
    unfold numsF
    rw [numF_str, numsF_str r]
theorem sp_app {s : Nat} {r : List Nat} : ∀ {p : List Nat}, s ∉ p → sp s (p ++ s :: r) = p :: sp s r
  | [], _ => by
    show sp s (s :: r) = _
    conv => lhs; unfold sp
    rw [if_pos rfl]
  | c :: p, h => by
    have hc : ¬ c = s := fun e => h (by rw [e]; exact List.mem_cons_self)
    rw [List.cons_append]
    conv => lhs; unfold sp
    rw [if_neg hc, sp_app fun m => h (List.mem_cons_of_mem _ m)]
theorem sp_one {s : Nat} : ∀ {p : List Nat}, s ∉ p → sp s p = [p]
  | [], _ => rfl
  | c :: p, h => by
    have hc : ¬ c = s := fun e => h (by rw [e]; exact List.mem_cons_self)
    conv => lhs; unfold sp
    rw [if_neg hc, sp_one fun m => h (List.mem_cons_of_mem _ m)]
theorem sp_join {s : Nat} : ∀ {ls : List (List Nat)}, ls ≠ [] → (∀ l ∈ ls, s ∉ l) → sp s (TL.joinL [s] ls) = ls
  | [p], _, h => sp_one (h p List.mem_cons_self)
  | p :: q :: r, _, h => by
    rw [join_cons (by simp), List.singleton_append, sp_app (h p List.mem_cons_self), sp_join (by simp) fun l hl => h l (List.mem_cons_of_mem _ hl)]
/-- the text of a list -/
def valT (xs : List Int) : List Nat := TL.joinL [32] (xs.map strI)
theorem str_free {x : Int} {s : Nat} (hs : s < 45 ∨ s = 58) : s ∉ strI x := fun m => by
  have := strI_sg2 m
  omega
theorem join_ne {s : Nat} : ∀ {ls : List (List Nat)}, ls ≠ [] → (∀ l ∈ ls, l ≠ []) → TL.joinL [s] ls ≠ []
  | [p], _, h => h p List.mem_cons_self
  | p :: q :: r, _, h => by rw [join_cons (by simp)]; simp
theorem valT_ne {xs : List Int} (h : xs ≠ []) : valT xs ≠ [] := join_ne (by simpa using h) fun l hl => by
  obtain ⟨x, _, rfl⟩ := List.mem_map.mp hl
  exact strI_ne x
theorem valT_sp {xs : List Int} (h : xs ≠ []) : sp 32 (valT xs) = xs.map strI := sp_join (by simpa using h) fun l hl => by
  obtain ⟨x, _, rfl⟩ := List.mem_map.mp hl
  exact str_free (.inl (by decide))
theorem join_free {s c : Nat} (hc : c ≠ s) : ∀ {ls : List (List Nat)}, (∀ l ∈ ls, c ∉ l) → c ∉ TL.joinL [s] ls
  | [], _ => by simp [TL.joinL]
  | [p], h => h p List.mem_cons_self
  | p :: q :: r, h => by
    rw [join_cons (by simp)]
    intro m
    rcases List.mem_append.mp m with m | m
    · exact h p List.mem_cons_self m
    · rcases List.mem_append.mp m with m | m
      · exact hc (List.mem_singleton.mp m)
      · exact join_free hc (fun l hl => h l (List.mem_cons_of_mem _ hl)) m
theorem valT_nl (xs : List Int) : 10 ∉ valT xs := join_free (by decide) fun l hl => by
  obtain ⟨x, _, rfl⟩ := List.mem_map.mp hl
  exact str_free (.inl (by decide))
/-- the text of a line -/
def linT (p : Int × List Int) : List Nat := TL.joinL [32] ((strI p.1 ++ [58]) :: p.2.map strI)
theorem key_free {k : Int} {s : Nat} (hs : s < 45) : s ∉ strI k ++ [58] := fun m => by
  rcases List.mem_append.mp m with m | m
  · exact str_free (.inl hs) m
  · have := List.mem_singleton.mp m; omega
theorem linT_sp (p : Int × List Int) : sp 32 (linT p) = (strI p.1 ++ [58]) :: p.2.map strI := sp_join (by simp) fun l hl => by
  rcases List.mem_cons.mp hl with rfl | hl
  · exact key_free (by decide)
  · obtain ⟨x, _, rfl⟩ := List.mem_map.mp hl
    exact str_free (.inl (by decide))
theorem linT_nl (p : Int × List Int) : 10 ∉ linT p := join_free (by decide) fun l hl => by
  rcases List.mem_cons.mp hl with rfl | hl
  · exact key_free (by decide)
  · obtain ⟨x, _, rfl⟩ := List.mem_map.mp hl
    exact str_free (.inl (by decide))
theorem linT_ne (p : Int × List Int) : linT p ≠ [] := join_ne (by simp) fun l hl => by
  rcases List.mem_cons.mp hl with rfl | hl
  · simp
  · obtain ⟨x, _, rfl⟩ := List.mem_map.mp hl
    exact strI_ne x
/-- .. as the program writes it -/
theorem linT_app (k : Int) : ∀ vs : List Int, linT (k, vs) = strI k ++ [58] ++ TL.joinL [] (vs.map fun v => [32] ++ strI v) := fun vs => by
  have go : ∀ (vs : List Int), TL.joinL [] (vs.map fun v => [32] ++ strI v) = (vs.map fun v => 32 :: strI v).flatten := by
    intro vs
    induction vs with
    | nil => rfl
    | cons v r ih =>
      cases r with
      | nil => show [32] ++ strI v = (32 :: strI v) ++ []; rw [List.append_nil]; rfl
      | cons w r =>
        rw [List.map_cons, join_cons (by simp), ih]; rfl
  have go2 : ∀ (vs : List Int) (p : List Nat), TL.joinL [32] (p :: vs.map strI) = p ++ (vs.map fun v => 32 :: strI v).flatten := by
    intro vs
    induction vs with
    | nil => intro p; show p = p ++ []; rw [List.append_nil]
    | cons v r ih =>
      intro p
      rw [List.map_cons, join_cons (by simp), ih (strI v)]; rfl
  show TL.joinL [32] ((strI k ++ [58]) :: vs.map strI) = _
  rw [go2, go]
/-- the text of a dict -/
def briT (kvs : List (Int × List Int)) : List Nat := TL.joinL [10] (kvs.map linT)
theorem briT_sp {kvs : List (Int × List Int)} (h : kvs ≠ []) : sp 10 (briT kvs) = kvs.map linT := sp_join (by simpa using h) fun l hl => by
  obtain ⟨x, _, rfl⟩ := List.mem_map.mp hl
  exact linT_nl x
theorem briT_ne {kvs : List (Int × List Int)} (h : kvs ≠ []) : briT kvs ≠ [] := join_ne (by simpa using h) fun l hl => by
  obtain ⟨x, _, rfl⟩ := List.mem_map.mp hl
  exact linT_ne x
/-! ### bounds -/
def smI (i : Int) : Prop := i.natAbs < 10 ^ 20
theorem strI_sm {i : Int} (h : smI i) : (strI i).length ≤ 21 := by
  have h : i.natAbs < 10 ^ 20 := h
  rcases int_or i with ⟨n, rfl⟩ | ⟨n, rfl⟩
  · rw [strI_nat]
    exact Nat.le_trans (TL.numL_len (k := 20) (by decide) h) (by decide)
  · rw [strI_neg, List.length_cons]
    exact Nat.add_le_add_right (TL.numL_len (k := 20) (by decide) h) 1
theorem strI_sg (i : Int) : ∀ c ∈ strI i, c < 1114112 := fun c hc => by have := strI_sg2 hc; omega
theorem sum_bd {N : Nat} : ∀ (ls : List (List Nat)), (∀ l ∈ ls, l.length ≤ N) → (ls.map List.length).sum ≤ ls.length * N
  | [], _ => by simp
  | p :: r, h => by
    have h1 := h p List.mem_cons_self
    have h2 := sum_bd r fun l hl => h l (List.mem_cons_of_mem _ hl)
    rw [List.map_cons, List.sum_cons, List.length_cons, Nat.add_mul, Nat.one_mul]
    omega
theorem join_bd {N m s : Nat} {ls : List (List Nat)} (hm : ls.length ≤ m) (h : ∀ l ∈ ls, l.length ≤ N) (hz : m * (N + 1) ≤ 16777216) : (ls.map List.length).sum + ls.length * [s].length ≤ 16777216 := by
  have h2 := sum_bd ls h
  have h3 : ls.length * (N + 1) ≤ m * (N + 1) := Nat.mul_le_mul_right _ hm
  rw [Nat.mul_add, Nat.mul_one] at h3
  show _ + ls.length * 1 ≤ _
  omega
theorem join_sz {N m s : Nat} {ls : List (List Nat)} (hm : ls.length ≤ m) (h : ∀ l ∈ ls, l.length ≤ N) : (TL.joinL [s] ls).length ≤ m * (N + 1) := by
  by_cases e : ls = []
  · subst e; exact Nat.zero_le _
  · have h1 := join_len (s := s) ls e
    have h2 := sum_bd ls h
    have h3 : ls.length * (N + 1) ≤ m * (N + 1) := Nat.mul_le_mul_right _ hm
    rw [Nat.mul_add, Nat.mul_one] at h3
    omega
theorem map_sm {xs : List Int} (h : ∀ x ∈ xs, smI x) : ∀ l ∈ xs.map strI, l.length ≤ 21 := fun l hl => by
  obtain ⟨x, hx, rfl⟩ := List.mem_map.mp hl
  exact strI_sm (h x hx)
theorem valT_sz {xs : List Int} (hl : xs.length ≤ 120) (h : ∀ x ∈ xs, smI x) : (valT xs).length ≤ 2640 := join_sz (N := 21) (m := 120) (by rw [List.length_map]; exact hl) (map_sm h)
def smP (p : Int × List Int) : Prop := smI p.1 ∧ p.2.length ≤ 12 ∧ ∀ v ∈ p.2, smI v
theorem lin_parts {p : Int × List Int} (h : smP p) : ∀ l ∈ (strI p.1 ++ [58]) :: p.2.map strI, l.length ≤ 22 := fun l hl => by
  rcases List.mem_cons.mp hl with rfl | hl
  · rw [List.length_append]; exact Nat.add_le_add_right (strI_sm h.1) 1
  · exact Nat.le_trans (map_sm h.2.2 l hl) (by decide)
theorem linT_sz {p : Int × List Int} (h : smP p) : (linT p).length ≤ 299 := join_sz (N := 22) (m := 13) (by rw [List.length_cons, List.length_map]; exact Nat.succ_le_succ h.2.1) (lin_parts h)
theorem map_lin {kvs : List (Int × List Int)} (h : ∀ p ∈ kvs, smP p) : ∀ l ∈ kvs.map linT, l.length ≤ 299 := fun l hl => by
  obtain ⟨x, hx, rfl⟩ := List.mem_map.mp hl
  exact linT_sz (h x hx)
theorem briT_sz {kvs : List (Int × List Int)} (hl : kvs.length ≤ 12) (h : ∀ p ∈ kvs, smP p) : (briT kvs).length ≤ 3600 := join_sz (N := 299) (m := 12) (by rw [List.length_map]; exact hl) (map_lin h)
theorem sm_big {i : Int} (h : smI i) : i.natAbs < 2 ^ 1900 := Nat.lt_trans h (by decide +kernel)
-- CUT
theorem fm_of {α : Type} {g h : α → PyData} {f : PyData → Option PyData} (hf : ∀ x, f (g x) = some (h x)) : ∀ l : List α, (l.map g).filterMap f = l.map h
  | [] => rfl
  | x :: r => by rw [List.map_cons, List.filterMap_cons, hf, fm_of hf r]; rfl
def fDig : PyData → Option PyData
  | .str x => some (.bool (decide ((TL.tl x).headD 0 ∈ digL)))
  | _ => none
def fNum : PyData → Option PyData
  | .str x => some (optI (numF (TL.tl x)))
  | _ => none
theorem sign_at {x : List Nat} {i : Nat} {d : PyData} (h : (x.map fun s => dS [s])[i]? = some d) : ∃ c, x[i]? = some c ∧ d = dS [c] := by
  rw [List.getElem?_map] at h
  obtain ⟨c, h1, h2⟩ := Option.map_eq_some_iff.mp h
  exact ⟨c, h1, h2.symm⟩
theorem dec_tt {p : Prop} [Decidable p] (h : decide p = true) : p := of_decide_eq_true h
theorem dec_ff {p : Prop} [Decidable p] (h : decide p = false) : ¬ p := of_decide_eq_false h
theorem figL_len (w : List Nat) : (figL w).length ≤ w.length := by
  unfold figL; split
  · rw [List.length_drop]; omega
  · exact Nat.le_refl _
abbrev s_number_of : Stmt := top 16
theorem sc_number_of : FnScope ["word", "figures", "sign"] ["word"] (defScope s_number_of) := ⟨rfl, rfl, rfl, by decide +kernel, rfl, by decide +kernel, by decide +kernel⟩
def sp_number_of : Rel := Pure (α := List Nat) (fun a => a.length ≤ 300) (fun a => [.val (dS a)]) (fun a => .st (optI (numF a)))
abbrev D_number_of (P : Program) (w : World) (K : PySem.W.Frag) (mg : Str → Option Value) (base : Heap) : Prop := DefOk P w K mg base "number_of" s_number_of ["word"] 1 (Prm K mg sp_number_of)
set_option linter.unusedVariables false in
theorem b_number_of {P : Program} {w : World} {K : PySem.W.Frag} {mg : Str → Option Value} {base : Heap} (A : At K mg "number_of" s_number_of ["word"]) (T : Free K mg)  : D_number_of P w K mg base := by
  obtain ⟨f, fd, hm, F, hb⟩ := A
  refine ⟨f, fd, hm, F, hb, pure_fn F sc_number_of (fun a => rfl) (fun a => rfl) (fun a => rfl) fun E B a ha => ?_⟩
  have nd : (["word", "figures", "sign"] : List Str).Nodup := sc_number_of.nd
  have ha : a.length ≤ 300 := ha
  have hf := figL_len a
  refine go_set 1 (ev_ifS (k := .st (dS (figL a))) (CM.tv (cm_eqT (ev_tTo (n := 1) (ev_val 0) ev_int (by omega)) (ev_strT (x := [45])))) (fun h => EV.to (ev_tFrom (n := 1) (ev_val 0) ev_int (by omega)) (by unfold figL; rw [if_pos (dec_tt h)])) (fun h => EV.to (ev_val 0) (by unfold figL; rw [if_neg (dec_ff h)]))) ?_
  refine go_leave (t := decide (figL a = []) || !allDig (figL a)) (tv_or (CM.tv (cm_eqT (ev_val 1) (ev_strT (x := [])))) fun _ => tv_not (tv_val (ev_all (bs := (figL a).map fun c => decide (c ∈ digL)) (EV.to (ev_comp [("sign", 2)] fDig (ei_text (z := false) (ev_val 1)) (fun i d hd => ?_) (by rw [List.length_map]; omega)) (k' := .fr (.lst (((figL a).map fun c => decide (c ∈ digL)).map .bool))) (by rw [fm_of (f := fDig) (h := fun c => PyData.bool (decide (c ∈ digL))) (fun x => rfl), List.map_map]; rfl)) T.all))) (fun h => go_ret ev_non ?_) fun h => ?_
  · obtain ⟨c, hc, rfl⟩ := sign_at hd
    exact ⟨_, _, true, gt_name 2, by decide, tvs_nil, fun _ => ⟨_, rfl, (cm_inT (ev_val 2) (ev_gstrT T.DIGITS)).ev⟩, fun h => nomatch h⟩
  · show Kd.st .none = .st (optI (numF a))
    unfold numF
    rw [if_pos h]; rfl
  have hne : figL a ≠ [] := fun e => by rw [e] at h; simp at h
  have hd : allDig (figL a) = true := by
    cases hh : allDig (figL a) with
    | true => rfl
    | false => rw [hh] at h; simp at h
  obtain ⟨c, r, hcr⟩ := List.exists_cons_of_ne_nil hne
  refine go_leave (t := decide ([c] = [48]) && !decide (a = [48])) (tv_and (CM.tv (cm_eqT (ev_tIx (s := c) (ev_val 1) ev_int (by rw [hcr]; exact atI_nat (j := 0) rfl) (by omega)) (ev_strT (x := [48])))) fun _ => (CM.tv (cm_neT (ev_val 0) (ev_strT (x := [48]))))) (fun h2 => go_ret ev_non ?_) fun h2 => ?_
  · show Kd.st .none = .st (optI (numF a))
    unfold numF
    rw [if_neg (by rw [h]; decide), hcr]
    show _ = Kd.st (optI (if (decide ([c] = [48]) && _) = true then _ else _))
    rw [if_pos h2]; rfl
  · refine go_ret (ev_intT (ev_val 0) T.int (int_tx (by omega) hne hd) (by omega)) ?_
    show _ = Kd.st (optI (numF a))
    unfold numF
    rw [if_neg (by rw [h]; decide), hcr]
    show _ = Kd.st (optI (if (decide ([c] = [48]) && _) = true then _ else _))
    rw [if_neg (by rw [h2]; decide)]; rfl
def pln2 (d : PyData) : Bool := plnD d && match d with | .list ds => ds.all plnD | _ => true
def pln3 (d : PyData) : Bool := plnD d && match d with | .list ds => ds.all pln2 | _ => true
theorem pln2_l {ds : List PyData} (h : pln2 (.list ds) = true) : ∀ d ∈ ds, plnD d = true := fun d hd => List.all_eq_true.mp (show ds.all plnD = true from h) d hd
theorem pln3_l {ds : List PyData} (h : pln3 (.list ds) = true) : ∀ d ∈ ds, pln2 d = true := fun d hd => List.all_eq_true.mp (show ds.all pln2 = true from h) d hd
theorem pln2_1 {d : PyData} (h : pln2 d = true) : plnD d = true := (Bool.and_eq_true_iff.mp h).1
theorem pln3_1 {d : PyData} (h : pln3 d = true) : plnD d = true := (Bool.and_eq_true_iff.mp h).1
theorem pln_nums (xs : List Int) : (nums xs).all plnD = true := List.all_eq_true.mpr fun d hd => by obtain ⟨v, _, rfl⟩ := nums_mem hd; rfl
def outN : Option Exn → Out
  | some x => .exn x
  | none => .ret (.st .none)
def optD : Option Nat → PyData
  | some i => .int (i : Nat)
  | none => .none
def badV : List PyData → Nat → Option Nat
  | [], _ => none
  | d :: r, i => if wholeD d = true then badV r (i + 1) else some i
theorem badV_nums : ∀ (xs : List Int) (r : List PyData) (i : Nat), badV (nums xs ++ r) i = badV r (i + xs.length)
  | [], r, i => rfl
  | x :: xs, r, i => by
    have := badV_nums xs r (i + 1)
    show (if wholeD (.int x) = true then badV (nums xs ++ r) (i + 1) else some i) = _
    rw [if_pos (show wholeD (.int x) = true from rfl), this, List.length_cons, show i + 1 + xs.length = i + (xs.length + 1) by omega]
theorem badV_none {ds : List PyData} : ∀ {i : Nat}, badV ds i = none → ∃ xs, ds = nums xs := by
  induction ds with
  | nil => exact fun _ => ⟨[], rfl⟩
  | cons d r ih =>
    intro i h
    unfold badV at h
    split at h
    · rename_i hw
      obtain ⟨xs, rfl⟩ := ih h
      cases d with
      | int v => exact ⟨v :: xs, rfl⟩
      | _ => cases hw
    · cases h
def xV (d : PyData) : Exn := ⟨"InvalidValues", some ("index", d)⟩
def refV : PyData → Option Exn
  | .list ds => if 120 < ds.length then some (xV .none) else (badV ds 0).map fun i => xV (.int (i : Nat))
  | _ => some (xV .none)
theorem refV_l (ds : List PyData) : refV (.list ds) = if 120 < ds.length then some (xV .none) else (badV ds 0).map fun i => xV (.int (i : Nat)) := rfl
theorem refV_nums {xs : List Int} (h : xs.length ≤ 120) : refV (.list (nums xs)) = none := by
  have := badV_nums xs [] 0
  rw [List.append_nil] at this
  rw [refV_l, if_neg (by rw [len_nums]; omega), this]; rfl
theorem numbered_inv {ds : List PyData} {i : Nat} {d : PyData} (h : (numbered ds)[i]? = some d) : ∃ e, ds[i]? = some e ∧ d = .tuple [.int (i : Nat), e] := by
  have hi : i < ds.length := by have := (List.getElem?_eq_some_iff.mp h).1; rwa [numbered_len] at this
  have := numbered_get (List.getElem?_eq_getElem hi)
  rw [this] at h
  exact ⟨_, List.getElem?_eq_getElem hi, (Option.some.inj h).symm⟩
theorem drop_cons_of {α : Type} {ds : List α} {i : Nat} {d : α} (h : ds[i]? = some d) : ds.drop i = d :: ds.drop (i + 1) := by
  obtain ⟨hi, e⟩ := List.getElem?_eq_some_iff.mp h
  rw [List.drop_eq_getElem_cons hi, e]
abbrev s_is_whole : Stmt := top 6
theorem sc_is_whole : FnScope ["thing"] ["thing"] (defScope s_is_whole) := ⟨rfl, rfl, rfl, by decide +kernel, rfl, by decide +kernel, by decide +kernel⟩
def sp_is_whole : Rel := Pure (α := PyData) (fun a => plnD a = true) (fun a => [.val a]) (fun a => .st (.bool (wholeD a)))
abbrev D_is_whole (P : Program) (w : World) (K : PySem.W.Frag) (mg : Str → Option Value) (base : Heap) : Prop := DefOk P w K mg base "is_whole" s_is_whole ["thing"] 1 (Prm K mg sp_is_whole)
set_option linter.unusedVariables false in
theorem b_is_whole {P : Program} {w : World} {K : PySem.W.Frag} {mg : Str → Option Value} {base : Heap} (A : At K mg "is_whole" s_is_whole ["thing"]) (T : Free K mg)  : D_is_whole P w K mg base := by
  obtain ⟨f, fd, hm, F, hb⟩ := A
  refine ⟨f, fd, hm, F, hb, pure_fn F sc_is_whole (fun a => rfl) (fun a => rfl) (fun a => rfl) fun E B a ha => ?_⟩
  have nd : (["thing"] : List Str).Nodup := sc_is_whole.nd
  have ha : plnD a = true := ha
  refine go_ret (EV.to (ev_and (ev_isB .int (ev_val 0) T.isinstance T.int) fun _ => ev_not (ev_isB .bool (ev_val 0) T.isinstance T.bool)) ?_) rfl
  cases a <;> rfl
theorem list_or (a : PyData) : (∃ ds, a = .list ds) ∨ (isK a .list = false ∧ refV a = some (xV .none)) := by
  cases a with
  | list ds => exact .inl ⟨ds, rfl⟩
  | _ => exact .inr ⟨rfl, rfl⟩
abbrev s_check_values : Stmt := top 7
theorem sc_check_values : FnScope ["values", "index", "value"] ["values"] (defScope s_check_values) := ⟨rfl, rfl, rfl, by decide +kernel, rfl, by decide +kernel, by decide +kernel⟩
def sp_check_values : Rel := PureX (α := PyData) (fun a => pln2 a = true) (fun a => [.val a]) (fun a => outN (refV a))
abbrev D_check_values (P : Program) (w : World) (K : PySem.W.Frag) (mg : Str → Option Value) (base : Heap) : Prop := DefOk P w K mg base "check_values" s_check_values ["values"] 2 (Prm K mg sp_check_values)
set_option linter.unusedVariables false in
theorem b_check_values {P : Program} {w : World} {K : PySem.W.Frag} {mg : Str → Option Value} {base : Heap} (A : At K mg "check_values" s_check_values ["values"]) (T : Free K mg) (d_is_whole : D_is_whole P w K mg base) : D_check_values P w K mg base := by
  obtain ⟨f, fd, hm, F, hb⟩ := A
  refine ⟨f, fd, hm, F, hb, pureX_fn F sc_check_values (fun a => rfl) (fun a => rfl) (fun a => by unfold outN; split <;> rfl) fun E B a ha => ?_⟩
  have nd : (["values", "index", "value"] : List Str).Nodup := sc_check_values.nd
  have ha : pln2 a = true := ha
  have ha1 := pln2_1 ha
  obtain ⟨C, tC⟩ := T.c_InvalidValues
  rcases list_or a with ⟨ds, rfl⟩ | ⟨hk, hr⟩
  · refine go_leave (tv_or (tv_not (tv_val (ev_isB .list (ev_val 0) T.isinstance T.list))) fun _ => (cm_gt (ev_len (ev_val 0) T.len) (ev_gint T.MOST_VALUES_drops)).tv) (fun hb => ?_) fun hb => ?_
    · refine go_raise tC.x ev_non ?_
      have hb : (120 : Int) < (ds.length : Int) := by simpa [isK] using hb
      show outN (refV (.list ds)) = .exn (xV .none)
      rw [refV_l, if_pos (by omega)]; rfl
    · have hb : ¬ 120 < ds.length := by
        have : ¬ (120 : Int) < (ds.length : Int) := by simpa [isK] using hb
        omega
      have e : refV (.list ds) = (badV ds 0).map fun i => xV (.int (i : Nat)) := by rw [refV_l, if_neg hb]
      refine go_last (g1_for (ei_enum (ev_val 0) T.enumerate) (fun i sl => ∃ x y, sl = [.val (.list ds), x, y] ∧ badV (ds.drop i) i = badV ds 0) ⟨_, _, rfl, rfl⟩ (fun i d sl hd h => ?_) fun sl h => ?_)
      · obtain ⟨x, y, rfl, h⟩ := h
        obtain ⟨v, hv, rfl⟩ := numbered_inv hd
        rw [drop_cons_of hv, badV] at h
        refine ⟨_, _, gt_tup (gts_cons (gt_name 1) (gts_cons (gt_name 2) gts_nil)), ?_⟩
        refine go_leave (tv_not (tv_val (ev_callP v d_is_whole (av_cons (ev_val 2) av_nil) (.st .nil) (pln2_l ha v (List.mem_of_getElem? hv))))) (fun hb => ?_) fun hb => ?_
        · refine go_raise tC.x (ev_val 1) ?_
          rw [if_neg (by simpa using hb)] at h
          show outN (refV (.list ds)) = .exn (xV (.int (i : Nat)))
          rw [e, ← h]; rfl
        · rw [if_pos (by simpa using hb)] at h
          exact go_nil ⟨_, _, rfl, h⟩
      · obtain ⟨x, y, rfl, h⟩ := h
        rw [numbered_len, List.drop_length] at h
        show outN (refV (.list ds)) = .ret (.st .none)
        rw [e, ← h]; rfl
  · refine go_leave (tv_or (u := false) (q := true) (tv_not (tv_val (ev_isB .list (ev_val 0) T.isinstance T.list))) fun h => absurd h (by rw [hk]; decide)) (fun hb => ?_) fun hb => absurd hb (by rw [hk]; decide)
    refine go_raise tC.x ev_non ?_
    show outN (refV a) = .exn (xV .none)
    rw [hr]; rfl
/-- values that may be brought -/
def broB : PyData → Bool
  | .list ds => decide (ds.length ≤ 12) && ds.all wholeD
  | _ => false
theorem broB_l (ds : List PyData) : broB (.list ds) = (decide (ds.length ≤ 12) && ds.all wholeD) := rfl
theorem broB_nums {xs : List Int} (h : xs.length ≤ 12) : broB (.list (nums xs)) = true := by
  rw [broB_l, len_nums, decide_eq_true h, Bool.true_and]
  exact List.all_eq_true.mpr fun d hd => by obtain ⟨v, _, rfl⟩ := nums_mem hd; rfl
def fWh (d : PyData) : Option PyData := some (.bool (wholeD d))
theorem fWh_all : ∀ ds : List PyData, ds.filterMap fWh = (ds.map wholeD).map .bool
  | [] => rfl
  | d :: r => by
    have ih := fWh_all r
    rw [List.filterMap_cons_some (show fWh d = some _ from rfl), ih]; rfl
theorem list_or2 (a : PyData) : (∃ ds, a = .list ds) ∨ (isK a .list = false ∧ broB a = false) := by
  cases a with
  | list ds => exact .inl ⟨ds, rfl⟩
  | _ => exact .inr ⟨rfl, rfl⟩
abbrev s_are_brought : Stmt := top 11
theorem sc_are_brought : FnScope ["thing", "value"] ["thing"] (defScope s_are_brought) := ⟨rfl, rfl, rfl, by decide +kernel, rfl, by decide +kernel, by decide +kernel⟩
def sp_are_brought : Rel := Pure (α := PyData) (fun a => pln2 a = true) (fun a => [.val a]) (fun a => .st (.bool (broB a)))
abbrev D_are_brought (P : Program) (w : World) (K : PySem.W.Frag) (mg : Str → Option Value) (base : Heap) : Prop := DefOk P w K mg base "are_brought" s_are_brought ["thing"] 2 (Prm K mg sp_are_brought)
set_option linter.unusedVariables false in
theorem b_are_brought {P : Program} {w : World} {K : PySem.W.Frag} {mg : Str → Option Value} {base : Heap} (A : At K mg "are_brought" s_are_brought ["thing"]) (T : Free K mg) (d_is_whole : D_is_whole P w K mg base) : D_are_brought P w K mg base := by
  obtain ⟨f, fd, hm, F, hb⟩ := A
  refine ⟨f, fd, hm, F, hb, pure_fn F sc_are_brought (fun a => rfl) (fun a => rfl) (fun a => rfl) fun E B a ha => ?_⟩
  have nd : (["thing", "value"] : List Str).Nodup := sc_are_brought.nd
  have ha : pln2 a = true := ha
  have ha1 := pln2_1 ha
  rcases list_or2 a with ⟨ds, rfl⟩ | ⟨hk, hb⟩
  · refine go_ret (EV.to (ev_andG (u := decide ((ds.length : Int) ≤ 12) && (ds.map wholeD).all id) (ev_isB .list (ev_val 0) T.isinstance T.list) (fun _ => ev_andG (u := (ds.map wholeD).all id) (cm_le (ev_len (ev_val 0) T.len) (ev_gint T.MOST_BROUGHT)).ev (fun hl => ev_one (ev_all (bs := ds.map wholeD) (EV.to (ev_comp [("value", 1)] fWh (ei_list (ev_val 0)) (fun i d hd => ⟨_, _, true, gt_name 1, by decide, tvs_nil, fun _ => ⟨_, rfl, ev_callP d d_is_whole (av_cons (ev_val 1) av_nil) (.st .nil) (pln2_l ha d (List.mem_of_getElem? hd))⟩, fun h => nomatch h⟩) (by have : (ds.length : Int) ≤ 12 := of_decide_eq_true hl; omega)) (k' := .fr (.lst ((ds.map wholeD).map .bool))) (by rw [fWh_all])) T.all)) (fun _ => rfl)) (fun _ => rfl)) ?_) rfl
    rw [broB_l]
    have e : decide ((ds.length : Int) ≤ 12) = decide (ds.length ≤ 12) := by by_cases h : ds.length ≤ 12 <;> simp [h] <;> omega
    rw [e, List.all_map]; rfl
  · refine go_ret (EV.to (ev_andG (q := true) (u := false) (ev_isB .list (ev_val 0) T.isinstance T.list) (fun h => absurd h (by rw [hk]; decide)) (fun _ => rfl)) ?_) rfl
    rw [hk, hb]; rfl
def xB (d : PyData) : Exn := ⟨"InvalidBrings", some ("key", d)⟩
def badP : List (Key × PyData) → Option Exn
  | [] => none
  | p :: r => if (wholeD (keyD p.1) && broB p.2) = true then badP r else some (xB (keyD p.1))
/-- what check_brings says -/
def refB (kvs : List (Key × PyData)) : Option Exn := if 12 < kvs.length then some (xB .none) else badP kvs
theorem badP_none : ∀ {kvs : List (Key × PyData)}, (∀ p ∈ kvs, wholeD (keyD p.1) = true ∧ broB p.2 = true) → badP kvs = none
  | [], _ => rfl
  | p :: r, h => by
    obtain ⟨h1, h2⟩ := h p List.mem_cons_self
    unfold badP
    rw [h1, h2, if_pos (by rfl)]
    exact badP_none fun q hq => h q (List.mem_cons_of_mem _ hq)
/-- what is handed in as brings -/
inductive BrI where
  | dct (kvs : List (Key × PyData))
  | bk
  | oth (d : PyData)
def BrI.d : BrI → PyData
  | .dct kvs => dD kvs
  | .bk => bkDd
  | .oth d => d
def BrI.ok : BrI → Prop
  | .dct kvs => ∀ p ∈ kvs, pln2 p.2 = true
  | .bk => True
  | .oth d => plnD d = true ∧ isK d .dict = false
def BrI.ref : BrI → Option Exn
  | .dct kvs => refB kvs
  | .bk => some (xB (.bool true))
  | .oth _ => some (xB .none)
theorem pln_dD (kvs : List (Key × PyData)) : plnD (dD kvs) = true := List.all_eq_true.mpr fun p hp => by
  obtain ⟨q, _, rfl⟩ := List.mem_map.mp hp
  rcases q with ⟨k | k, d⟩ <;> rfl
theorem pln_key (k : Key) : plnD (keyD k) = true := by cases k <;> rfl
theorem pair_at {kvs : List (Key × PyData)} {i : Nat} {d : PyData} (h : (pairD kvs)[i]? = some d) : ∃ p, kvs[i]? = some p ∧ d = .tuple [keyD p.1, p.2] := by
  unfold pairD at h
  rw [List.getElem?_map] at h
  obtain ⟨p, h1, h2⟩ := Option.map_eq_some_iff.mp h
  exact ⟨p, h1, h2.symm⟩
abbrev s_check_brings : Stmt := top 12
theorem sc_check_brings : FnScope ["brings", "key", "some"] ["brings"] (defScope s_check_brings) := ⟨rfl, rfl, rfl, by decide +kernel, rfl, by decide +kernel, by decide +kernel⟩
def sp_check_brings : Rel := PureX (α := BrI) (BrI.ok) (fun a => [.val a.d]) (fun a => outN a.ref)
abbrev D_check_brings (P : Program) (w : World) (K : PySem.W.Frag) (mg : Str → Option Value) (base : Heap) : Prop := DefOk P w K mg base "check_brings" s_check_brings ["brings"] 3 (Prm K mg sp_check_brings)
set_option linter.unusedVariables false in
theorem b_check_brings {P : Program} {w : World} {K : PySem.W.Frag} {mg : Str → Option Value} {base : Heap} (A : At K mg "check_brings" s_check_brings ["brings"]) (T : Free K mg) (d_is_whole : D_is_whole P w K mg base) (d_are_brought : D_are_brought P w K mg base) : D_check_brings P w K mg base := by
  obtain ⟨f, fd, hm, F, hb⟩ := A
  refine ⟨f, fd, hm, F, hb, pureX_fn F sc_check_brings (fun a => rfl) (fun a => rfl) (fun a => by unfold outN; split <;> rfl) fun E B a ha => ?_⟩
  have nd : (["brings", "key", "some"] : List Str).Nodup := sc_check_brings.nd
  have ha : a.ok := ha
  obtain ⟨C, tC⟩ := T.c_InvalidBrings
  cases a with
  | dct kvs =>
    have ha : ∀ p ∈ kvs, pln2 p.2 = true := ha
    refine go_leave (tv_or (tv_not (tv_val (ev_isB .dict (ev_val (d := dD kvs) 0) T.isinstance T.dict (hpd := pln_dD kvs)))) fun _ => (cm_gt (ev_lenD (kvs := kvs) (ev_val 0) T.len .st) (ev_gint T.MOST_KEYS)).tv) (fun hb => ?_) fun hb => ?_
    · refine go_raise tC.x ev_non ?_
      have hb : (12 : Int) < (kvs.length : Int) := by simpa [isK, dD] using hb
      show outN (refB kvs) = .exn (xB .none)
      rw [refB, if_pos (by omega)]; rfl
    · have hb : ¬ 12 < kvs.length := by
        have : ¬ (12 : Int) < (kvs.length : Int) := by simpa [isK, dD] using hb
        omega
      have e : refB kvs = badP kvs := if_neg hb
      refine go_last (g1_for (ei_items (kvs := kvs) (ev_val 0)) (fun i sl => ∃ x y, sl = [.val (dD kvs), x, y] ∧ badP (kvs.drop i) = badP kvs) ⟨_, _, rfl, rfl⟩ (fun i d sl hd h => ?_) fun sl h => ?_)
      · obtain ⟨x, y, rfl, h⟩ := h
        obtain ⟨p, hp, rfl⟩ := pair_at hd
        rw [drop_cons_of hp, badP] at h
        refine ⟨_, _, gt_tup (gts_cons (gt_name 1) (gts_cons (gt_name 2) gts_nil)), ?_⟩
        refine go_leave (t := !(wholeD (keyD p.1) && broB p.2)) (tv_to (tv_or (tv_not (tv_val (ev_callP (keyD p.1) d_is_whole (av_cons (ev_val 1) av_nil) (.st .nil) (pln_key p.1)))) fun _ => tv_not (tv_val (ev_callP p.2 d_are_brought (av_cons (ev_val 2) av_nil) (.st .nil) (ha p (List.mem_of_getElem? hp))))) (by cases wholeD (keyD p.1) <;> rfl)) (fun hb => ?_) fun hb => ?_
        · refine go_raise tC.x (ev_val 1) ?_
          rw [if_neg (by rw [show (wholeD (keyD p.1) && broB p.2) = false from by cases h1 : wholeD (keyD p.1) <;> cases h2 : broB p.2 <;> simp [h1, h2] at hb ⊢]; decide)] at h
          show outN (refB kvs) = .exn (xB (keyD p.1))
          rw [e, ← h]; rfl
        · rw [if_pos (by simpa using hb)] at h
          exact go_nil ⟨_, _, rfl, h⟩
      · obtain ⟨x, y, rfl, h⟩ := h
        have hl : (pairD kvs).length = kvs.length := List.length_map _
        rw [hl, List.drop_length] at h
        show outN (refB kvs) = .ret (.st .none)
        rw [e, ← h]; rfl
  | bk =>
    refine go_skip (tv_or (tv_not (tv_val (ev_isiBk (ev_val (d := bkDd) 0) T.isinstance T.dict))) fun _ => (cm_gt (ev_lenBk (ev_val (d := bkDd) 0) T.len) (ev_gint T.MOST_KEYS)).tv) (by rfl) ?_
    refine go_last (g1_for (ei_itemsBk (ev_val (d := bkDd) 0)) (fun i sl => ∃ x y, sl = [.val bkDd, x, y] ∧ i < 2) ⟨_, _, rfl, by decide⟩ (fun i d sl hd h => ?_) fun sl h => ?_)
    · obtain ⟨x, y, rfl, h⟩ := h
      have hi : i = 0 ∨ i = 1 := by omega
      rcases hi with rfl | rfl
      · cases hd
        refine ⟨_, _, gt_tup (gts_cons (gt_name 1) (gts_cons (gt_name 2) gts_nil)), ?_⟩
        exact go_skip (tv_or (tv_not (tv_val (ev_callP (PyData.int 2) d_is_whole (av_cons (ev_val 1) av_nil) (.st .nil) (show plnD (PyData.int 2) = true from rfl)))) fun _ => tv_not (tv_val (ev_callP (PyData.list []) d_are_brought (av_cons (ev_val 2) av_nil) (.st .nil) (show pln2 (PyData.list []) = true from rfl)))) (by rfl) (go_nil ⟨_, _, rfl, by decide⟩)
      · cases hd
        refine ⟨_, _, gt_tup (gts_cons (gt_name 1) (gts_cons (gt_name 2) gts_nil)), ?_⟩
        refine go_leave (t := true) (tv_to (tv_or (t := !wholeD (.bool true)) (u := true) (q := true) (tv_not (tv_val (ev_callP (PyData.bool true) d_is_whole (av_cons (ev_val (d := .bool true) 1) av_nil) (.st .nil) (show plnD (PyData.bool true) = true from rfl)))) fun h => absurd h (by decide)) (by rfl)) (fun _ => go_raise tC.x (ev_val 1) rfl) fun h => nomatch h
    · obtain ⟨x, y, rfl, h⟩ := h
      exact absurd h (by decide)
  | oth d =>
    obtain ⟨h1, h2⟩ := (show plnD d = true ∧ isK d .dict = false from ha)
    refine go_leave (t := true) (tv_to (tv_or (u := false) (q := true) (tv_not (tv_val (ev_isB .dict (ev_val (d := d) 0) T.isinstance T.dict (hpd := h1)))) fun h => absurd h (by rw [h2]; decide)) (by rw [h2]; rfl)) (fun hb => go_raise tC.x ev_non rfl) fun hb => nomatch hb
def intsD : PyData → List Int
  | .list ds => ds.filterMap fun d => match d with | .int i => some i | _ => none
  | _ => []
theorem intsD_nums : ∀ xs : List Int, intsD (.list (nums xs)) = xs
  | [] => rfl
  | x :: r => by
    have ih := intsD_nums r
    show x :: intsD (.list (nums r)) = _
    rw [ih]
/-- what format_values gives -/
def fvO (a : PyData) : Out := match refV a with
  | some z => .exn z
  | none => .ret (.st (dS (valT (intsD a))))
theorem refV_none {a : PyData} (h : refV a = none) : ∃ xs, a = .list (nums xs) ∧ xs.length ≤ 120 := by
  cases a with
  | list ds =>
    rw [refV_l] at h
    split at h
    · cases h
    · rename_i hl
      obtain ⟨xs, rfl⟩ := badV_none (Option.map_eq_none_iff.mp h)
      exact ⟨xs, rfl, by rw [len_nums] at hl; omega⟩
  | _ => cases h
def fStr : PyData → Option PyData
  | .int x => some (dS (strI x))
  | _ => none
theorem fStr_nums : ∀ xs : List Int, (nums xs).filterMap fStr = dSs (xs.map strI)
  | [] => rfl
  | x :: r => by
    have ih := fStr_nums r
    show dS (strI x) :: (nums r).filterMap fStr = _
    rw [ih]; rfl
-- CUT
abbrev s_numbers_of : Stmt := top 17
theorem sc_numbers_of : FnScope ["words", "told", "word"] ["words"] (defScope s_numbers_of) := ⟨rfl, rfl, rfl, by decide +kernel, rfl, by decide +kernel, by decide +kernel⟩
def sp_numbers_of : Rel := Pure (α := List Int) (fun a => a.length ≤ 130 ∧ ∀ x ∈ a, smI x) (fun a => [.val (.list (dSs (a.map strI)))]) (fun a => .ft (.ls (nums a)))
abbrev D_numbers_of (P : Program) (w : World) (K : PySem.W.Frag) (mg : Str → Option Value) (base : Heap) : Prop := DefOk P w K mg base "numbers_of" s_numbers_of ["words"] 2 (Prm K mg sp_numbers_of)
set_option linter.unusedVariables false in
theorem b_numbers_of {P : Program} {w : World} {K : PySem.W.Frag} {mg : Str → Option Value} {base : Heap} (A : At K mg "numbers_of" s_numbers_of ["words"]) (T : Free K mg) (d_number_of : D_number_of P w K mg base) : D_numbers_of P w K mg base := by
  obtain ⟨f, fd, hm, F, hb⟩ := A
  refine ⟨f, fd, hm, F, hb, pure_fn F sc_numbers_of (fun a => rfl) (fun a => rfl) (fun a => rfl) fun E B a ha => ?_⟩
  have nd : (["words", "told", "word"] : List Str).Nodup := sc_numbers_of.nd
  obtain ⟨h1, h2⟩ := (show a.length ≤ 130 ∧ ∀ x ∈ a, smI x from ha)
  have e1 : (dSs (a.map strI)).filterMap fNum = nums a := by
    refine Eq.trans (fm_of (f := fNum) (h := fun w => optI (numF w)) (fun x => ?_) (a.map strI)) (numsF_some (numsF_str a))
    rfl
  refine go_setC 1 [("word", 2)] fNum (ei_list (ev_val 0)) (fun i d hd => ?_) (by rw [len_dSs, List.length_map]; omega) e1 ?_
  · obtain ⟨w, hw, rfl⟩ := dSs_get hd
    obtain ⟨x, hx, rfl⟩ := List.mem_map.mp (List.mem_of_getElem? hw)
    exact ⟨_, _, true, gt_name 2, by decide, tvs_nil, fun _ => ⟨_, rfl, (ev_callP (strI x) d_number_of (av_cons (ev_val 2) av_nil) (.st .nil) (show (strI x).length ≤ 300 from Nat.le_trans (strI_sm (h2 x hx)) (by decide)))⟩, fun h => nomatch h⟩
  have hin : inD .none (nums a) = false := by
    have := inD_opt (a.map strI)
    rw [numsF_some (numsF_str a), numsF_str] at this
    exact this
  exact go_retG (evg_if (CM.tv (cm_in (d := .none) (ds := nums a) ev_non (ev_own 1) rfl (List.all_eq_true.mpr fun d hd => by obtain ⟨w, _, rfl⟩ := nums_mem hd; rfl))) (fun h => by rw [hin] at h; cases h) fun _ => evg_own 1) rfl
abbrev s_format_values : Stmt := top 18
theorem sc_format_values : FnScope ["values", "value"] ["values"] (defScope s_format_values) := ⟨rfl, rfl, rfl, by decide +kernel, rfl, by decide +kernel, by decide +kernel⟩
def sp_format_values : Rel := PureX (α := PyData) (fun a => pln2 a = true ∧ (refV a = none → ∀ x ∈ intsD a, smI x)) (fun a => [.val a]) (fun a => fvO a)
abbrev D_format_values (P : Program) (w : World) (K : PySem.W.Frag) (mg : Str → Option Value) (base : Heap) : Prop := DefOk P w K mg base "format_values" s_format_values ["values"] 3 (Prm K mg sp_format_values)
set_option linter.unusedVariables false in
theorem b_format_values {P : Program} {w : World} {K : PySem.W.Frag} {mg : Str → Option Value} {base : Heap} (A : At K mg "format_values" s_format_values ["values"]) (T : Free K mg) (d_check_values : D_check_values P w K mg base) : D_format_values P w K mg base := by
  obtain ⟨f, fd, hm, F, hb⟩ := A
  refine ⟨f, fd, hm, F, hb, pureX_fn F sc_format_values (fun a => rfl) (fun a => rfl) (fun a => by unfold fvO; split <;> rfl) fun E B a ha => ?_⟩
  have nd : (["values", "value"] : List Str).Nodup := sc_format_values.nd
  obtain ⟨ha1, ha2⟩ := (show pln2 a = true ∧ (refV a = none → ∀ x ∈ intsD a, smI x) from ha)
  cases e : refV a with
  | some z => exact go_exprX (xv_call a d_check_values (av_cons (ev_val 0) av_nil) (.st .nil) ha1 (by show outN (refV a) = _; rw [e]; rfl)) (by show fvO a = _; unfold fvO; rw [e])
  | none =>
    obtain ⟨xs, rfl, hl⟩ := refV_none e
    have hs := ha2 e
    rw [intsD_nums] at hs
    refine go_expr (ev_callO (.list (nums xs)) d_check_values (av_cons (ev_val 0) av_nil) (.st .nil) ha1 (k := .st .none) (by show outN (refV _) = _; rw [e]; rfl)) ?_
    refine go_ret (ev_join (ls := xs.map strI) (ev_strT (x := [32])) (EV.to (ev_comp [("value", 1)] fStr (ei_list (ev_val 0)) (fun i d hd => ?_) (by rw [len_nums]; omega)) (k' := .fr (.lst (dSs (xs.map strI)))) (by rw [fStr_nums])) .fr (join_bd (N := 21) (m := 120) (by rw [List.length_map]; exact hl) (map_sm hs) (by decide))) ?_
    · obtain ⟨x, hx, rfl⟩ := nums_get hd
      exact ⟨_, _, true, gt_name 1, by decide, tvs_nil, fun _ => ⟨_, rfl, ev_strI (ev_val 1) T.str (sm_big (hs x (List.mem_of_getElem? hx)))⟩, fun h => nomatch h⟩
    · show fvO (.list (nums xs)) = _
      unfold fvO
      rw [e, intsD_nums]; rfl
abbrev s_parse_values : Stmt := top 19
theorem sc_parse_values : FnScope ["text", "told"] ["text"] (defScope s_parse_values) := ⟨rfl, rfl, rfl, by decide +kernel, rfl, by decide +kernel, by decide +kernel⟩
def sp_parse_values : Rel := Pure (α := List Int) (fun a => a.length ≤ 120 ∧ ∀ x ∈ a, smI x) (fun a => [.val (dS (valT a))]) (fun a => .ft (.ls (nums a)))
abbrev D_parse_values (P : Program) (w : World) (K : PySem.W.Frag) (mg : Str → Option Value) (base : Heap) : Prop := DefOk P w K mg base "parse_values" s_parse_values ["text"] 3 (Prm K mg sp_parse_values)
set_option linter.unusedVariables false in
theorem b_parse_values {P : Program} {w : World} {K : PySem.W.Frag} {mg : Str → Option Value} {base : Heap} (A : At K mg "parse_values" s_parse_values ["text"]) (T : Free K mg) (d_numbers_of : D_numbers_of P w K mg base) : D_parse_values P w K mg base := by
  obtain ⟨f, fd, hm, F, hb⟩ := A
  refine ⟨f, fd, hm, F, hb, pure_fn F sc_parse_values (fun a => rfl) (fun a => rfl) (fun a => rfl) fun E B a ha => ?_⟩
  have nd : (["text", "told"] : List Str).Nodup := sc_parse_values.nd
  obtain ⟨h1, h2⟩ := (show a.length ≤ 120 ∧ ∀ x ∈ a, smI x from ha)
  have hz := valT_sz h1 h2
  refine go_skip (tv_or (tv_not (tv_val (ev_isB .str (ev_val 0) T.isinstance T.str))) fun _ => (CM.tv (cm_inT (s := 10) (ev_strT (x := [10])) (ev_val 0)))) (by show (!true || decide (10 ∈ valT a)) = false; rw [decide_eq_false (valT_nl a)]; rfl) ?_
  refine go_set 1 (EV.to (ev_if (k := .fr (.lst (nums a))) (CM.tv (cm_neT (ev_val 0) (ev_strT (x := [])))) (fun h => EVP.fr (evp_callP a d_numbers_of (av_cons (EV.to (EV.fz (ev_split (s := 32) (ev_val 0) (ev_strT (x := [32])) (by decide) (by omega))) (k' := .st (.list (dSs (a.map strI)))) ?_) av_nil) (.st .nil) ⟨Nat.le_trans h1 (by decide), h2⟩)) fun h => EV.to (ev_lst av_nil .nil) ?_) rfl) ?_
  · have h : ¬ valT a = [] := by simpa using h
    rw [splitL_sp, valT_sp fun e => h (by rw [e]; rfl)]
  · have h : valT a = [] := by simpa using h
    cases a with
    | nil => rfl
    | cons x r => exact absurd h (valT_ne (by simp))
  refine go_skip (tv_or (CM.tv (cm_isNW (EV.lsW (ev_own 1)))) fun _ => (CM.tv (cm_gt (ev_len (ds := nums a) (ev_own 1) T.len) (ev_gint T.MOST_VALUES_text)))) (by rw [len_nums]; show (false || decide ((120 : Int) < _)) = false; rw [decide_eq_false (by omega)]; rfl) ?_
  exact go_retG (evg_own 1) rfl
abbrev s_line_of : Stmt := top 21
theorem sc_line_of : FnScope ["line", "words", "numbers"] ["line"] (defScope s_line_of) := ⟨rfl, rfl, rfl, by decide +kernel, rfl, by decide +kernel, by decide +kernel⟩
def sp_line_of : Rel := Pure (α := Int × List Int) (smP) (fun a => [.val (dS (linT a))]) (fun a => .ft (.tup [.st (.int a.1), .ls (nums a.2)]))
abbrev D_line_of (P : Program) (w : World) (K : PySem.W.Frag) (mg : Str → Option Value) (base : Heap) : Prop := DefOk P w K mg base "line_of" s_line_of ["line"] 3 (Prm K mg sp_line_of)
set_option linter.unusedVariables false in
theorem b_line_of {P : Program} {w : World} {K : PySem.W.Frag} {mg : Str → Option Value} {base : Heap} (A : At K mg "line_of" s_line_of ["line"]) (T : Free K mg) (d_numbers_of : D_numbers_of P w K mg base) : D_line_of P w K mg base := by
  obtain ⟨f, fd, hm, F, hb⟩ := A
  refine ⟨f, fd, hm, F, hb, pure_fn F sc_line_of (fun a => rfl) (fun a => rfl) (fun a => rfl) fun E B a ha => ?_⟩
  have nd : (["line", "words", "numbers"] : List Str).Nodup := sc_line_of.nd
  obtain ⟨k, vs⟩ := a
  have ha : smP (k, vs) := ha
  have hz := linT_sz ha
  obtain ⟨k1, k2, k3⟩ := ha
  have k1 : smI k := k1
  have k2 : vs.length ≤ 12 := k2
  have k3 : ∀ v ∈ vs, smI v := k3
  have hk := strI_sm k1
  have hsp := linT_sp (k, vs)
  generalize linT (k, vs) = L at *
  have hw : (strI k ++ [58]).length ≤ 22 := by rw [List.length_append]; exact Nat.add_le_add_right hk 1
  refine go_set 1 (EV.to (EV.fz (ev_split (s := 32) (ev_val 0) (ev_strT (x := [32])) (by decide) (by omega))) (k' := .st (.list (dSs ((strI k ++ [58]) :: vs.map strI)))) (by rw [splitL_sp, hsp])) ?_
  refine go_set 2 (EVP.fr (evp_callP (k :: vs) d_numbers_of (av_cons (EV.fz (EV.to (ev_cat (ev_lst (av_cons (ev_tInit (ev_ix (d := dS (strI k ++ [58])) (ev_val 1) ev_int .st (atI_nat (j := 0) rfl)) (by omega)) av_nil) (.cons .nil)) (ev_sliceFrom (n := 1) (ev_val 1) ev_int) (hz := by show 1 + ((dSs ((strI k ++ [58]) :: vs.map strI)).drop 1).length ≤ _; rw [List.length_drop, len_dSs, List.length_cons, List.length_map]; omega)) (k' := .fr (.lst (dSs ((k :: vs).map strI)))) (by rw [List.dropLast_concat]; rfl))) av_nil) (.st .nil) ⟨Nat.le_trans (Nat.succ_le_succ k2) (by decide), fun x hx => ?_⟩)) ?_
  · rcases List.mem_cons.mp hx with rfl | hx
    · exact k1
    · exact k3 x hx
  have e58 : (strI k ++ [58]).drop ((strI k ++ [58]).length - 1) = [58] := by rw [List.length_append]; exact List.drop_left
  refine go_skip (tv_or3 (CM.tv (cm_neT (ev_tEnd (ev_ix (d := dS (strI k ++ [58])) (ev_val 1) ev_int .st (atI_nat (j := 0) rfl)) (by omega)) (ev_strT (x := [58])))) (fun _ => CM.tv (cm_isNW (EV.lsW (ev_own 2)))) fun _ _ => CM.tv (cm_gt (ev_len (ds := nums (k :: vs)) (ev_own 2) T.len) (ev_add (ev_gint T.MOST_BROUGHT) ev_int))) ?_ ?_
  · rw [e58, len_nums, List.length_cons]
    show (!decide _ || (false || decide ((12 : Int) + 1 < _))) = false
    rw [decide_eq_true rfl, decide_eq_false (by omega)]; rfl
  exact go_retE (evp_tup (avp_cons (evp_st (ev_ix (d := .int k) (ds := nums (k :: vs)) (ev_own 2) ev_int .ls (atI_nat (j := 0) rfl))) (avp_cons (evp_fr (ev_sliceFromN (xs := k :: vs) (n := 1) (ev_own 2) ev_int)) avp_nil))) rfl
-- CUT
def pk4 (a b c d k : Int) : Int := if k = 0 then a else if k = 1 then b else if k = 2 then c else d
theorem pk4_at {a b c d k : Int} (h : 0 ≤ k ∧ k < 4) : atI [PyData.int a, .int b, .int c, .int d] k = some (.int (pk4 a b c d k)) := by
  have : k = 0 ∨ k = 1 ∨ k = 2 ∨ k = 3 := by omega
  rcases this with rfl | rfl | rfl | rfl <;> rfl
theorem mdB (v q : Int) (h : 0 < q) : 0 ≤ v % q ∧ v % q < q := ⟨Int.emod_nonneg v (by omega), Int.emod_lt_of_pos v h⟩
/-- a drawn value -/
def bvFar : Int := 10 ^ (20 : Int).toNat
theorem bvFar_eq : bvFar = 100000000000000000000 := by decide
def bvV (p : Int) : Int := pk4 (p % 7 - 2) (p % 7 - 2) (p % 30 - 9) ((p % 3 - 1) * (bvFar - 1)) (p / 64 % 4)
def okBv (v : Int) : Prop := v = bvFar - 1 ∨ v = 1 - bvFar ∨ (-9 ≤ v ∧ v ≤ 20)
theorem bvV_ok (p : Int) : okBv (bvV p) := by
  have h3 := mdB p 3 (by decide)
  have h7 := mdB p 7 (by decide)
  have h30 := mdB p 30 (by decide)
  unfold bvV pk4 okBv
  rw [bvFar_eq]
  have h : p % 3 = 0 ∨ p % 3 = 1 ∨ p % 3 = 2 := by omega
  repeat' split
  · exact .inr (.inr ⟨by omega, by omega⟩)
  · exact .inr (.inr ⟨by omega, by omega⟩)
  · exact .inr (.inr ⟨by omega, by omega⟩)
  · rcases h with h | h | h <;> rw [h]
    · exact .inr (.inl (by decide))
    · exact .inr (.inr ⟨by decide, by decide⟩)
    · exact .inl (by decide)
abbrev s_law_value : Stmt := top 26
theorem sc_law_value : FnScope ["_law_draws_here", "_law_pick"] ["_law_draws_here"] (defScope s_law_value) := ⟨rfl, rfl, rfl, by decide +kernel, rfl, by decide +kernel, by decide +kernel⟩
def sp_law_value : Rel := Chg (α := Dr) (fun s => s.ok 900000000) (fun s => [.io 0 s.ow]) (fun s => .st (.int (bvV s.v))) (fun s => [.io 0 s.nx.ow])
abbrev D_law_value (P : Program) (w : World) (K : PySem.W.Frag) (mg : Str → Option Value) (base : Heap) : Prop := DefOk P w K mg base "_law_value" s_law_value ["_law_draws_here"] 2 (Prm K mg sp_law_value)
set_option linter.unusedVariables false in
theorem b_law_value {P : Program} {w : World} {K : PySem.W.Frag} {mg : Str → Option Value} {base : Heap} (A : At K mg "_law_value" s_law_value ["_law_draws_here"]) (T : Free K mg) (d_law_next : D_law_next P w K mg base) : D_law_value P w K mg base := by
  obtain ⟨f, fd, hm, F, hb⟩ := A
  refine ⟨f, fd, hm, F, hb, chg_fn F sc_law_value (fun a => rfl) (fun a => .io .nil) (fun a => rfl) fun E B a ha => ?_⟩
  have nd : (["_law_draws_here", "_law_pick"] : List Str).Nodup := sc_law_value.nd
  have hs : a.ok 900000000 := ha
  refine go_set 1 (ev_intI (ev_callX 0 (a).nx.ow a d_law_next (av_cons (ev_at 0) av_nil) (.here .nil) hs.up (hio_cons rfl)) T.int) ?_
  have c20 : CPowW 10 20 := pow_ok 4 (by decide) (by decide) (by decide) (by decide)
  have h3 := mdB a.v 3 (by decide)
  have hm : CMulW (a.v % 3 - 1) ((10 : Int) ^ (20 : Int).toNat - 1) := mul_ok 7 70 (by omega) (by decide)
  exact go_ret (ev_ix (ev_lstN (avi_cons (ev_sub (ev_mod (ev_val 1) ev_int (by decide)) ev_int) (avi_cons (ev_sub (ev_mod (ev_val 1) ev_int (by decide)) ev_int) (avi_cons (ev_sub (ev_mod (ev_val 1) ev_int (by decide)) ev_int) (avi_cons (ev_mul (ev_sub (ev_mod (ev_val 1) ev_int (by decide)) ev_int) (ev_sub (ev_pow ev_int ev_int c20) ev_int) hm) avi_nil))))) (ev_mod (ev_div (ev_val 1) ev_int (by decide)) ev_int (by decide)) .fr (pk4_at (mdB (a.v / 64) 4 (by decide)))) ⟨rfl, ioin_cons rfl rfl⟩
/-- the keys -/
def bvStep (x : List Int × Dr) : List Int × Dr := (addNew x.1 (bvV x.2.v), x.2.nx)
def bvMany (s : Dr) : Nat := (s.v % 13).toNat
def bvKeys (s : Dr) : List Int × Dr := itN bvStep (bvMany s) ([], s.nx)
theorem addNew_m {t : List Int} {v x : Int} (h : x ∈ addNew t v) : x ∈ t ∨ x = v := by
  unfold addNew at h
  by_cases hm : v ∈ t
  · rw [if_pos hm] at h; simp at h; exact .inl h
  · rw [if_neg hm] at h; simpa using h
theorem addNew_nd {t : List Int} {v : Int} (h : t.Nodup) : (addNew t v).Nodup := by
  unfold addNew
  by_cases hm : v ∈ t
  · rw [if_pos hm]; simpa using h
  · rw [if_neg hm]
    refine List.nodup_append.mpr ⟨h, by simp, fun a ha b hb e => ?_⟩
    have hb : b = v := by simpa using hb
    subst hb; subst e
    exact hm ha
theorem bvIt (s : Dr) (n i : Nat) (hs : s.ok n) : (itN bvStep i ([], s)).1.Nodup ∧ (∀ x ∈ (itN bvStep i ([], s)).1, okBv x) ∧ (itN bvStep i ([], s)).1.length ≤ i ∧ (itN bvStep i ([], s)).2.ok (n + i) := by
  refine itN_inv (J := fun (i : Nat) (x : List Int × Dr) => x.1.Nodup ∧ (∀ y ∈ x.1, okBv y) ∧ x.1.length ≤ i ∧ x.2.ok (n + i)) (fun i x h => ?_) i _ ⟨List.nodup_nil, by simp, Nat.le_refl _, hs⟩
  obtain ⟨h1, h2, h3, h4⟩ := h
  refine ⟨addNew_nd h1, fun y hy => ?_, Nat.le_trans (addNew_len _ _) (by omega), h4.nx⟩
  rcases addNew_m hy with hy | rfl
  · exact h2 y hy
  · exact bvV_ok _
theorem bvMany_le (s : Dr) : bvMany s ≤ 12 := by
  unfold bvMany
  have := mdB s.v 13 (by decide)
  omega
def mxF (xs : List Int) : Int := xs.foldr max 0
def mnF (xs : List Int) : Int := xs.foldr min 0
theorem mxF_ok : ∀ xs : List Int, mxF xs ∈ xs ++ [0] ∧ ∀ y ∈ xs ++ [0], y ≤ mxF xs
  | [] => ⟨by simp [mxF], fun y hy => by simp [mxF] at hy ⊢; omega⟩
  | x :: r => by
    obtain ⟨h1, h2⟩ := mxF_ok r
    show max x (mxF r) ∈ x :: (r ++ [0]) ∧ ∀ y ∈ x :: (r ++ [0]), y ≤ max x (mxF r)
    refine ⟨?_, fun y hy => ?_⟩
    · rcases Int.le_total x (mxF r) with h | h
      · rw [Int.max_eq_right h]; exact List.mem_cons_of_mem _ h1
      · rw [Int.max_eq_left h]; exact List.mem_cons_self
    · rcases List.mem_cons.mp hy with rfl | hy
      · omega
      · have := h2 y hy; omega
theorem mnF_ok : ∀ xs : List Int, mnF xs ∈ xs ++ [0] ∧ ∀ y ∈ xs ++ [0], mnF xs ≤ y
  | [] => ⟨by simp [mnF], fun y hy => by simp [mnF] at hy ⊢; omega⟩
  | x :: r => by
    obtain ⟨h1, h2⟩ := mnF_ok r
    show min x (mnF r) ∈ x :: (r ++ [0]) ∧ ∀ y ∈ x :: (r ++ [0]), min x (mnF r) ≤ y
    refine ⟨?_, fun y hy => ?_⟩
    · rcases Int.le_total x (mnF r) with h | h
      · rw [Int.min_eq_left h]; exact List.mem_cons_self
      · rw [Int.min_eq_right h]; exact List.mem_cons_of_mem _ h1
    · rcases List.mem_cons.mp hy with rfl | hy
      · omega
      · have := h2 y hy; omega
def absF (x : Int) : Int := if x < 0 then -x else x
def nearF (ks : List Int) : List Int := [mxF ks + 1, mnF ks - 1].filter fun x => decide (absF x < bvFar)
def freeF (ks : List Int) : List Int := ([77, 78] ++ nearF ks).filter fun x => !decide (x ∈ ks)
def laterF (ends : Bool) (ks : List Int) (i : Nat) : List Int := if ends = true then ks.drop (i + 1) else ks
def poolF (ends : Bool) (ks : List Int) (i : Nat) : List Int := laterF ends ks i ++ freeF ks
theorem okBv_no {ks : List Int} (h : ∀ x ∈ ks, okBv x) : (77 : Int) ∉ ks := fun hm => by
  rcases h 77 hm with z | z | z
  · revert z; decide
  · revert z; decide
  · omega
theorem freeF_pos {ks : List Int} (h : ∀ x ∈ ks, okBv x) : 0 < (freeF ks).length := by
  unfold freeF
  refine List.length_pos_of_mem (a := 77) (List.mem_filter.mpr ⟨by simp, ?_⟩)
  rw [decide_eq_false (okBv_no h)]; rfl
/-- what a key brings -/
def brEl (pool : List Int) (p : Int) : Int := pool[(p % (pool.length : Int)).toNat]?.getD 0
def brStep (pool : List Int) (x : List Int × Dr) : List Int × Dr := (x.1 ++ [brEl pool x.2.v], x.2.nx)
def brMost (s : Dr) : Int := pk4 2 3 4 12 (s.v % 4)
theorem brMost_bd (s : Dr) : 0 < brMost s ∧ brMost s ≤ 12 := by unfold brMost pk4; (repeat' split) <;> decide
def brMany (most : Int) (s : Dr) : Nat := (s.v % (most + 1)).toNat
def brRow (ends : Bool) (ks : List Int) (most : Int) (i : Nat) (s : Dr) : List Int × Dr := itN (brStep (poolF ends ks i)) (brMany most s) ([], s.nx)
def brOut (ends : Bool) (ks : List Int) (most : Int) : Nat → Dr → List (Int × List Int) × Dr
  | 0, s => ([], s)
  | i + 1, s => ((brOut ends ks most i s).1 ++ [(ks[i]?.getD 0, (brRow ends ks most i (brOut ends ks most i s).2).1)], (brRow ends ks most i (brOut ends ks most i s).2).2)
/-- a drawn dict -/
def brAll (ends : Bool) (s : Dr) : List (Int × List Int) × Dr := brOut ends (bvKeys s).1 (brMost (bvKeys s).2) (bvKeys s).1.length (bvKeys s).2.nx
def brK (kvs : List (Int × List Int)) : List (Key × PyData) := kvs.map fun p => (.inl p.1, .list (nums p.2))
def brT (kvs : List (Int × List Int)) : List (Key × PTr) := kvs.map fun p => (.inl p.1, .ls (nums p.2))
theorem brT_d : ∀ kvs : List (Int × List Int), (PTr.dct (brT kvs)).d = dD (brK kvs) := fun kvs => by
  show PyData.dict (PTr.dk (brT kvs)) = .dict ((brK kvs).map _)
  congr 1
  induction kvs with
  | nil => rfl
  | cons p r ih =>
    show (keyD (.inl p.1), PyData.list (nums p.2)) :: PTr.dk (brT r) = _
    rw [ih]; rfl
theorem brIt (pool : List Int) (s : Dr) (n i : Nat) (hs : s.ok n) : (itN (brStep pool) i ([], s)).1.length = i ∧ (itN (brStep pool) i ([], s)).2.ok (n + i) := by
  refine itN_inv (J := fun (i : Nat) (x : List Int × Dr) => x.1.length = i ∧ x.2.ok (n + i)) (fun i x h => ?_) i _ ⟨rfl, hs⟩
  obtain ⟨h1, h2⟩ := h
  exact ⟨by show (x.1 ++ [_]).length = _; rw [List.length_append, List.length_singleton, h1], h2.nx⟩
theorem brMany_le {most : Int} (h : 0 < most ∧ most ≤ 12) (s : Dr) : brMany most s ≤ 12 := by
  unfold brMany
  have := mdB s.v (most + 1) (by omega)
  omega
theorem brOut_ok (ends : Bool) (ks : List Int) {most : Int} (h : 0 < most ∧ most ≤ 12) : ∀ (i : Nat) (s : Dr) (n : Nat), s.ok n → (brOut ends ks most i s).1.length = i ∧ (∀ p ∈ (brOut ends ks most i s).1, p.2.length ≤ 12) ∧ (brOut ends ks most i s).2.ok (n + 13 * i)
  | 0, s, n, hs => ⟨rfl, (by intro p hp; cases hp), hs⟩
  | i + 1, s, n, hs => by
    obtain ⟨a, b, c⟩ := brOut_ok ends ks h i s n hs
    obtain ⟨d, e⟩ := brIt (poolF ends ks i) _ _ (brMany most (brOut ends ks most i s).2) c.nx
    have hm := brMany_le h (brOut ends ks most i s).2
    refine ⟨by show (_ ++ [_]).length = _; rw [List.length_append, a]; rfl, fun p hp => ?_, e.up⟩
    rcases List.mem_append.mp hp with hp | hp
    · exact b p hp
    · rw [List.mem_singleton.mp hp]
      show (itN (brStep (poolF ends ks i)) (brMany most (brOut ends ks most i s).2) ([], (brOut ends ks most i s).2.nx)).1.length ≤ 12
      rw [d]; exact hm
theorem bvKeys_ok (s : Dr) (n : Nat) (hs : s.ok n) : (bvKeys s).1.Nodup ∧ (∀ x ∈ (bvKeys s).1, okBv x) ∧ (bvKeys s).1.length ≤ 12 ∧ (bvKeys s).2.ok (n + 13) := by
  obtain ⟨a, b, c, d⟩ := bvIt s.nx _ (bvMany s) hs.nx
  have := bvMany_le s
  exact ⟨a, b, by unfold bvKeys; omega, d.up⟩
theorem brAll_ok (ends : Bool) (s : Dr) (n : Nat) (hs : s.ok n) : (brAll ends s).2.ok (n + 200) := by
  obtain ⟨a, b, c, d⟩ := bvKeys_ok s n hs
  exact (brOut_ok ends _ (brMost_bd _) _ _ _ d.nx).2.2.up
theorem brOut_keys (ends : Bool) (ks : List Int) (most : Int) : ∀ (i : Nat) (s : Dr), i ≤ ks.length → (brOut ends ks most i s).1.map (·.1) = ks.take i
  | 0, _, _ => rfl
  | i + 1, s, h => by
    show ((brOut ends ks most i s).1 ++ [_]).map _ = _
    rw [List.map_append, brOut_keys ends ks most i s (by omega), List.take_add_one, List.getElem?_eq_getElem (by omega)]; rfl
theorem brT_no {kvs : List (Int × List Int)} {k : Int} (h : k ∉ kvs.map (·.1)) : getT (brT kvs) (.inl k) = none := by
  induction kvs with
  | nil => rfl
  | cons p r ih =>
    rw [List.map_cons, List.mem_cons] at h
    have e : ¬ ((.inl p.1 : Key) = .inl k) := fun z => h (.inl (Sum.inl.inj z).symm)
    show getT ((.inl p.1, .ls (nums p.2)) :: brT r) _ = _
    rw [getT_neg e]
    exact ih fun z => h (.inr z)
theorem getT_last {kvs : List (Key × PTr)} {k : Key} {t : PTr} (h : getT kvs k = none) : getT (kvs ++ [(k, t)]) k = some t := by
  induction kvs with
  | nil => exact getT_pos (p := (k, t)) rfl
  | cons p r ih =>
    by_cases e : p.1 = k
    · rw [getT_pos e] at h; cases h
    · rw [getT_neg e] at h
      rw [List.cons_append, getT_neg e]; exact ih h
theorem setT_last {kvs : List (Key × PTr)} {k : Key} {t t' : PTr} (h : getT kvs k = none) : setT (kvs ++ [(k, t)]) k t' = kvs ++ [(k, t')] := by
  have : setT (kvs ++ [(k, t)]) k t' = setT kvs k t' ++ [(k, t')] := by
    unfold setT
    rw [List.map_append]
    congr 1
    show [if k = k then (k, t') else (k, t)] = _
    rw [if_pos rfl]
  rw [this, setT_no h]
theorem poolF_at {pool : List Int} (h : 0 < pool.length) (p : Int) : atI (nums pool) (p % (pool.length : Int)) = some (.int (brEl pool p)) := by
  have hb := mdB p pool.length (by omega)
  obtain ⟨j, hj⟩ := Int.eq_ofNat_of_zero_le hb.1
  unfold brEl
  rw [hj, Int.toNat_natCast]
  have hjl : j < pool.length := by omega
  rw [List.getElem?_eq_getElem hjl]
  exact atI_nat (get_nums (List.getElem?_eq_getElem hjl))
theorem poolF_len (ends : Bool) (ks : List Int) (i : Nat) : (poolF ends ks i).length ≤ ks.length + 4 := by
  have h1 : (freeF ks).length ≤ 4 := by
    unfold freeF
    refine Nat.le_trans (List.length_filter_le ..) ?_
    rw [List.length_append]
    have : (nearF ks).length ≤ 2 := List.length_filter_le ..
    show 2 + _ ≤ 4
    omega
  have h2 : (laterF ends ks i).length ≤ ks.length := by
    unfold laterF
    split
    · rw [List.length_drop]; omega
    · exact Nat.le_refl _
  unfold poolF
  rw [List.length_append]; omega
abbrev s_law_brings : Stmt := top 27
theorem sc_law_brings : FnScope ["_law_draws_here", "_law_ends", "_law_some", "_law_turn", "_law_value_here", "_law_most", "_law_told", "_law_at", "_law_key", "_law_pick", "_law_later", "_law_near", "_law_free", "_law_one"] ["_law_draws_here", "_law_ends"] (defScope s_law_brings) := ⟨rfl, rfl, rfl, by decide +kernel, rfl, by decide +kernel, by decide +kernel⟩
def sp_law_brings : Rel := Chg (α := Bool × Dr) (fun a => a.2.ok 890000000) (fun a => [.io 0 a.2.ow, kB a.1]) (fun a => .st (dD (brK (brAll a.1 a.2).1))) (fun a => [.io 0 (brAll a.1 a.2).2.ow, kB a.1])
abbrev D_law_brings (P : Program) (w : World) (K : PySem.W.Frag) (mg : Str → Option Value) (base : Heap) : Prop := DefOk P w K mg base "_law_brings" s_law_brings ["_law_draws_here", "_law_ends"] 3 (Prm K mg sp_law_brings)
set_option linter.unusedVariables false in
theorem b_law_brings {P : Program} {w : World} {K : PySem.W.Frag} {mg : Str → Option Value} {base : Heap} (A : At K mg "_law_brings" s_law_brings ["_law_draws_here", "_law_ends"]) (T : Free K mg) (d_law_next : D_law_next P w K mg base) (d_law_value : D_law_value P w K mg base) : D_law_brings P w K mg base := by
  obtain ⟨f, fd, hm, F, hb⟩ := A
  refine ⟨f, fd, hm, F, hb, chg_fn F sc_law_brings (fun a => rfl) (fun a => .io (.val .nil)) (fun a => rfl) fun E B a ha => ?_⟩
  have nd : (["_law_draws_here", "_law_ends", "_law_some", "_law_turn", "_law_value_here", "_law_most", "_law_told", "_law_at", "_law_key", "_law_pick", "_law_later", "_law_near", "_law_free", "_law_one"] : List Str).Nodup := sc_law_brings.nd
  obtain ⟨ends, s⟩ := a
  have hs : s.ok 890000000 := ha
  obtain ⟨k1, k2, k3, k4⟩ := bvKeys_ok s _ hs
  refine go_set 2 (ev_lst av_nil .nil) ?_
  have m13 := mdB s.v 13 (by decide)
  refine go_cons (M := fun sl => ∃ x3 x4, sl = [.io 0 (bvKeys s).2.ow, kB ends, kO (bvKeys s).1, x3, x4, .no, .no, .no, .no, .no, .no, .no, .no, .no]) (g1_for (ei_range1 (ev_mod (ev_intI (ev_callX 0 (s).nx.ow s d_law_next (av_cons (ev_at 0) av_nil) (.here .nil) hs.up (hio_cons rfl)) T.int) ev_int (by decide)) (by omega) T.range)
    (fun i sl => ∃ x3 x4, sl = [.io 0 (itN bvStep i ([], s.nx)).2.ow, kB ends, kO (itN bvStep i ([], s.nx)).1, x3, x4, .no, .no, .no, .no, .no, .no, .no, .no, .no]) ⟨_, _, rfl⟩ (fun i d sl hd h => ?_) fun sl h => ?_) fun sl h => ?_
  · obtain ⟨x3, x4, rfl⟩ := h
    obtain ⟨hi, rfl⟩ := upI_at hd
    have hi2 : i ≤ 13 := by omega
    obtain ⟨q1, q2, q3, q4⟩ := bvIt s.nx _ i hs.nx
    show ∃ js s2, _ ∧ GO _ _ _ _ { nx := fun sl => ∃ x3 x4, sl = [Sl.io 0 (bvStep (itN _ i _)).2.ow, _, kO (bvStep (itN _ i _)).1, x3, x4, .no, .no, .no, .no, .no, .no, .no, .no, .no], rt := _, bk := _, ct := _ }
    generalize itN bvStep i ([], s.nx) = T1 at q1 q2 q3 q4 ⊢
    obtain ⟨t, u⟩ := T1
    have q3 : t.length ≤ i := q3
    have q4 : u.ok (890000000 + 1 + i) := q4
    refine ⟨_, _, gt_name 3, ?_⟩
    refine go_set 4 (ev_callX 0 u.nx.ow u d_law_value (av_cons (ev_at 0) av_nil) (.here .nil) q4.up (hio_cons rfl)) ?_
    refine go_set 2 (ev_cat (ev_own 2) (ev_rep (ev_lst (av_cons (ev_val 4) av_nil) (.cons .nil)) (ev_intB (cm_notInN (ev_val 4) (ev_own 2)).ev T.int) (b01 _) (b01n _ (Nat.le_of_ble_eq_true rfl))) (hz := Nat.le_trans (Nat.add_le_add_left (b01f _ _) _) (by rw [len_nums]; show t.length + 1 ≤ _; omega))) (go_nil ?_)
    exact ⟨_, _, congrArg (fun z => [Sl.io 0 u.nx.ow, kB ends, Sl.own (.lst z), kI (0 + (i : Int)), kI (bvV u.v), .no, .no, .no, .no, .no, .no, .no, .no, .no]) (addNew_nums t _).symm⟩
  · obtain ⟨x3, x4, rfl⟩ := h
    rw [upI_len]
    exact ⟨_, _, rfl⟩
  obtain ⟨x3, x4, rfl⟩ := h
  refine go_frz 2 ?_
  show GO _ _ _ _ (toRt _ [.io 0 (brOut ends (bvKeys s).1 (brMost (bvKeys s).2) (bvKeys s).1.length (bvKeys s).2.nx).2.ow, kB ends])
  have e0 : brAll ends s = brOut ends (bvKeys s).1 (brMost (bvKeys s).2) (bvKeys s).1.length (bvKeys s).2.nx := rfl
  generalize bvKeys s = BK at *
  obtain ⟨ks, u⟩ := BK
  have k1 : ks.Nodup := k1
  have k2 : ∀ x ∈ ks, okBv x := k2
  have k3 : ks.length ≤ 12 := k3
  have k4 : u.ok (890000000 + 13) := k4
  have mb := brMost_bd u
  have hF := freeF_pos k2
  have c20 : CPowW 10 20 := pow_ok 4 (by decide) (by decide) (by decide) (by decide)
  refine go_set 5 (EV.to (ev_ix (ev_lstN (avi_cons ev_int (avi_cons ev_int (avi_cons ev_int (avi_cons ev_int avi_nil))))) (ev_mod (ev_intI (ev_callX 0 (u).nx.ow u d_law_next (av_cons (ev_at 0) av_nil) (.here .nil) k4.up (hio_cons rfl)) T.int) ev_int (by decide)) .fr (pk4_at (mdB u.v 4 (by decide)))) (k' := .st (.int (brMost u))) rfl) ?_
  generalize brMost u = most at *
  refine go_setP 6 evp_dnew fun fp => ?_
  refine go_cons (M := fun sl => ∃ fp x3 x7 x8 x9 x10 x11 x12, sl = [.io 0 (brOut ends ks most ks.length u.nx).2.ow, kB ends, kL ks, x3, x4, kI most, .prv (.dct (brT (brOut ends ks most ks.length u.nx).1)) fp, x7, x8, x9, x10, x11, x12, .no]) (g1_for (ei_enum (ev_val 2) T.enumerate) (fun i sl => ∃ fp x3 x7 x8 x9 x10 x11 x12, sl = [.io 0 (brOut ends ks most i u.nx).2.ow, kB ends, kL ks, x3, x4, kI most, .prv (.dct (brT (brOut ends ks most i u.nx).1)) fp, x7, x8, x9, x10, x11, x12, .no]) ⟨_, _, _, _, _, _, _, _, rfl⟩ (fun i d sl hd h => ?_) fun sl h => ?_) fun sl h => ?_
  · obtain ⟨fp, x3, x7, x8, x9, x10, x11, x12, rfl⟩ := h
    obtain ⟨key, hv, rfl⟩ := numbered_nums hd
    have hi : i < ks.length := (List.getElem?_eq_some_iff.mp hv).1
    obtain ⟨o1, o2, o3⟩ := brOut_ok ends ks mb i u.nx _ k4.nx
    have hkeys := brOut_keys ends ks most i u.nx (by omega)
    show ∃ js s2, _ ∧ GO _ _ _ _ { nx := fun sl => ∃ fp x3 x7 x8 x9 x10 x11 x12, sl = [Sl.io 0 (brRow ends ks most i (brOut ends ks most i u.nx).2).2.ow, _, _, x3, _, _, .prv (.dct (brT ((brOut ends ks most i u.nx).1 ++ [(ks[i]?.getD 0, (brRow ends ks most i (brOut ends ks most i u.nx).2).1)]))) fp, x7, x8, x9, x10, x11, x12, .no], rt := _, bk := _, ct := _ }
    generalize brOut ends ks most i u.nx = W at o1 o2 o3 hkeys ⊢
    obtain ⟨kv, w⟩ := W
    have o1 : kv.length = i := o1
    have o3 : w.ok (890000000 + 13 + 1 + 13 * i) := o3
    have hkeys : kv.map (·.1) = ks.take i := hkeys
    have hnk : key ∉ kv.map (·.1) := by rw [hkeys]; exact nodup_take k1 hv
    have hno := brT_no hnk
    have hnd : ∀ t : PTr, ((brT kv ++ [((Sum.inl key : Key), t)]).map (·.1)).Nodup := fun t => by
      have e : (brT kv ++ [((Sum.inl key : Key), t)]).map (·.1) = (ks.take (i + 1)).map (fun k => (Sum.inl k : Key)) := by
        rw [List.map_append, List.take_add_one, hv, Option.toList_some, List.map_append, ← hkeys]
        unfold brT
        rw [List.map_map, List.map_map]; rfl
      rw [e]
      exact List.pairwise_map.mpr (((List.take_sublist _ _).nodup k1).imp fun h z => h (Sum.inl.inj z))
    have hml := brMany_le mb w
    have mm := mdB w.v (most + 1) (by omega)
    refine ⟨_, _, gt_tup (gts_cons (gt_name 7) (gts_cons (gt_name 8) gts_nil)), ?_⟩
    refine go_dnewk (k := .inl key) (t := .ls []) 6 (evp_fr (ev_lst av_nil .nil)) (ev_val 8) hno (fun fp2 => ?_) (by unfold brT; rw [List.length_map]; omega)
    have hpl := poolF_len ends ks i
    have hpp : 0 < (poolF ends ks i).length := by unfold poolF; rw [List.length_append]; omega
    refine go_last (g1_for (ei_range1 (ev_mod (ev_intI (ev_callX 0 (w).nx.ow w d_law_next (av_cons (ev_at 0) av_nil) (.here .nil) o3.up (hio_cons rfl)) T.int) (ev_add (ev_val 5) ev_int) (by omega)) (by omega) T.range) (fun j sl => ∃ fp x3 x9 x10 x11 x12, sl = [.io 0 (itN (brStep (poolF ends ks i)) j ([], w.nx)).2.ow, kB ends, kL ks, x3, x4, kI most, .prv (.dct (brT kv ++ [(.inl key, .ls (nums (itN (brStep (poolF ends ks i)) j ([], w.nx)).1))])) fp, kI (i : Int), kI key, x9, x10, x11, x12, .no]) ⟨_, _, _, _, _, _, rfl⟩ (fun j d sl hd h => ?_) fun sl h => ?_)
    · obtain ⟨fp, x3, x9, x10, x11, x12, rfl⟩ := h
      obtain ⟨hj, rfl⟩ := upI_at hd
      have hj2 : j ≤ 13 := by omega
      obtain ⟨r1, r2⟩ := brIt (poolF ends ks i) w.nx _ j o3.nx
      show ∃ js s2, _ ∧ GO _ _ _ _ { nx := fun sl => ∃ fp x3 x9 x10 x11 x12, sl = [Sl.io 0 (brStep (poolF ends ks i) (itN (brStep (poolF ends ks i)) j ([], w.nx))).2.ow, kB ends, kL ks, x3, x4, kI most, .prv (.dct (brT kv ++ [((Sum.inl key : Key), PTr.ls (nums (brStep (poolF ends ks i) (itN (brStep (poolF ends ks i)) j ([], w.nx))).1))])) fp, kI (i : Int), kI key, x9, x10, x11, x12, .no], rt := _, bk := _, ct := _ }
      generalize itN (brStep (poolF ends ks i)) j ([], w.nx) = Y at r1 r2 ⊢
      obtain ⟨t, z⟩ := Y
      have r1 : t.length = j := r1
      have r2 : z.ok (890000000 + 13 + 1 + 13 * i + 1 + j) := r2
      refine ⟨_, _, gt_name 3, ?_⟩
      refine go_set 9 (ev_intI (ev_callX 0 (z).nx.ow z d_law_next (av_cons (ev_at 0) av_nil) (.here .nil) r2.up (hio_cons rfl)) T.int) ?_
      refine go_set 10 (EV.to (ev_if (k := .st (.list (nums (laterF ends ks i)))) (tv_val (ev_val 1)) (fun h => EV.to (EV.fz (ev_sliceFromN (n := i + 1) (ev_val 2) (EV.to (ev_add (ev_val 7) ev_int) (k' := .st (.int ((i + 1 : Nat) : Int))) rfl))) (by unfold laterF; rw [if_pos h])) (fun h => EV.to (ev_val 2) (by unfold laterF; rw [if_neg (by rw [h]; decide)]))) rfl) ?_
      refine go_setFN (xs := [mxF ks + 1, mnF ks - 1]) 11 13 (fun x => decide (absF x < bvFar)) (ei_ls (ev_lstN (avi_cons (ev_add (ev_max (m := mxF ks) (xs := ks ++ [0]) (ev_catN (xs := ks) (ys := [0]) (ev_val 2) (ev_lstN (avi_cons ev_int avi_nil)) (show ks.length + 1 ≤ 1000000 by omega)) T.max (mxF_ok ks).1 (mxF_ok ks).2) ev_int) (avi_cons (ev_sub (ev_min (m := mnF ks) (xs := ks ++ [0]) (ev_catN (xs := ks) (ys := [0]) (ev_val 2) (ev_lstN (avi_cons ev_int avi_nil)) (show ks.length + 1 ≤ 1000000 by omega)) T.min (mnF_ok ks).1 (mnF_ok ks).2) ev_int) avi_nil)))) (fun q x hx => CM.tv (cm_lt (ev_abs (ev_val 13) T.abs) (ev_pow ev_int ev_int c20))) (show 2 ≤ 1000000 by decide) ?_
      have hnr : (nearF ks).length ≤ 2 := List.length_filter_le ..
      refine go_setFN (xs := [77, 78] ++ nearF ks) 12 13 (fun x => !decide (x ∈ ks)) (ei_ls (ev_catN (xs := [77, 78]) (ys := nearF ks) (ev_lstN (avi_cons ev_int (avi_cons ev_int avi_nil))) (ev_own 11) (by show 2 + _ ≤ _; omega))) (fun q x hx => CM.tv (cm_notInN (ev_val 13) (ev_val 2))) (by rw [List.length_append]; show 2 + _ ≤ _; omega) ?_
      have hcz : (laterF ends ks i).length + (freeF ks).length ≤ 1000000 := by have := hpl; unfold poolF at this; rw [List.length_append] at this; omega
      refine go_appKey (k := .inl key) (ds := nums t) (d := .int (brEl (poolF ends ks i) z.v)) 6 (ev_val 8) (getT_last hno) (hnd _) (ev_ix (ds := nums (poolF ends ks i)) (ev_catN (xs := laterF ends ks i) (ys := freeF ks) (ev_val 10) (ev_own 12) hcz) (ev_mod (j := ((poolF ends ks i).length : Nat)) (ev_intI (ev_val 9) T.int) (EV.to (ev_len (ds := nums (poolF ends ks i)) (ev_catN (xs := laterF ends ks i) (ys := freeF ks) (ev_val 10) (ev_own 12) hcz) T.len) (by rw [len_nums])) (by omega)) .fr (poolF_at hpp z.v)) ?_ (by rw [len_nums]; omega)
      refine go_nil ?_
      rw [setT_last hno, nums_snoc]
      exact ⟨_, _, _, _, _, _, rfl⟩
    · obtain ⟨fp, x3, x9, x10, x11, x12, rfl⟩ := h
      rw [upI_len]
      refine ⟨fp, x3, kI (i : Int), kI key, x9, x10, x11, x12, ?_⟩
      rw [hv]
      show _ = [_, _, _, _, _, _, Sl.prv (.dct (brT (kv ++ [(key, (brRow ends ks most i w).1)]))) fp, _, _, _, _, _, _, _]
      unfold brT
      rw [List.map_append]; rfl
  · obtain ⟨fp, x3, x7, x8, x9, x10, x11, x12, rfl⟩ := h
    rw [numbered_len, len_nums]
    exact ⟨_, _, _, _, _, _, _, _, rfl⟩
  obtain ⟨fp2, x3', x7, x8, x9, x10, x11, x12, rfl⟩ := h
  refine go_frzP 6 ?_
  rw [brT_d]
  exact go_ret (EV.to (ev_val 6) (by show _ = Kd.st (dD (brK (brAll ends s).1)); rw [e0])) ⟨rfl, ioin_cons rfl rfl⟩
-- CUT
/-! ### a dict, its keys ascending -/
theorem sort_ok (xs : List Int) : (xs.mergeSort (fun a b => decide (a ≤ b))).Perm xs ∧ (xs.mergeSort (fun a b => decide (a ≤ b))).Pairwise (· ≤ ·) := by
  refine ⟨List.mergeSort_perm _ _, ?_⟩
  have := List.pairwise_mergeSort (le := fun (a b : Int) => decide (a ≤ b)) (fun a b c h1 h2 => by simp only [decide_eq_true_eq] at *; omega) (fun a b => by simp only [Bool.or_eq_true, decide_eq_true_eq]; omega) xs
  exact this.imp fun h => of_decide_eq_true h
theorem keysBr (kvs : List (Int × List Int)) : (brK kvs).map (·.1) = (kvs.map (·.1)).map Sum.inl := by
  unfold brK; rw [List.map_map, List.map_map]; rfl
def getI (kvs : List (Int × List Int)) (k : Int) : List Int := ((kvs.find? fun p => decide (p.1 = k)).map (·.2)).getD []
theorem getI_in {kvs : List (Int × List Int)} {k : Int} (h : k ∈ kvs.map (·.1)) : (k, getI kvs k) ∈ kvs ∧ getK (brK kvs) (.inl k) = some (.list (nums (getI kvs k))) := by
  induction kvs with
  | nil => cases h
  | cons p r ih =>
    by_cases e : p.1 = k
    · have e2 : getI (p :: r) k = p.2 := by unfold getI; rw [List.find?_cons_of_pos (by simpa using e)]; rfl
      refine ⟨?_, ?_⟩
      · rw [e2, ← e]; exact List.mem_cons_self
      · rw [e2]
        exact getK_pos (p := (.inl p.1, .list (nums p.2))) (by rw [e])
    · have e2 : getI (p :: r) k = getI r k := by unfold getI; rw [List.find?_cons_of_neg (by simpa using e)]
      rw [List.map_cons, List.mem_cons] at h
      obtain ⟨i1, i2⟩ := ih (h.resolve_left fun z => e z.symm)
      rw [e2]
      refine ⟨List.mem_cons_of_mem _ i1, ?_⟩
      exact (getK_neg (p := (.inl p.1, .list (nums p.2))) fun z => e (Sum.inl.inj z)).trans i2
def srtK (kvs : List (Int × List Int)) : List Int := (kvs.map (·.1)).mergeSort (fun a b => decide (a ≤ b))
def srtB (kvs : List (Int × List Int)) : List (Int × List Int) := (srtK kvs).map fun k => (k, getI kvs k)
theorem srtK_mem {kvs : List (Int × List Int)} {k : Int} : k ∈ srtK kvs ↔ k ∈ kvs.map (·.1) := (sort_ok (kvs.map (·.1))).1.mem_iff
theorem srtK_len (kvs : List (Int × List Int)) : (srtK kvs).length = kvs.length := by
  unfold srtK
  rw [(sort_ok (kvs.map (·.1))).1.length_eq, List.length_map]
theorem srtB_keys (kvs : List (Int × List Int)) : (srtB kvs).map (·.1) = srtK kvs := by
  unfold srtB; rw [List.map_map]
  exact List.map_id _
theorem srtB_len (kvs : List (Int × List Int)) : (srtB kvs).length = kvs.length := by unfold srtB; rw [List.length_map, srtK_len]
theorem srtB_sm {kvs : List (Int × List Int)} (h : ∀ p ∈ kvs, smP p) : ∀ p ∈ srtB kvs, smP p := fun p hp => by
  obtain ⟨k, hk, rfl⟩ := List.mem_map.mp hp
  exact h _ (getI_in (srtK_mem.mp hk)).1
def AscK (t : List (Int × List Int)) : Prop := (t.map (·.1)).Pairwise (· < ·)
theorem srtB_asc {kvs : List (Int × List Int)} (h : (kvs.map (·.1)).Nodup) : AscK (srtB kvs) := by
  unfold AscK
  rw [srtB_keys]
  have h1 := (sort_ok (kvs.map (·.1))).2
  have h2 : (srtK kvs).Nodup := by unfold srtK; exact (sort_ok (kvs.map (·.1))).1.nodup_iff.mpr h
  exact h1.imp₂ (fun a b h3 h4 => by omega) h2
/-! ### what format_brings gives -/
def intsK : List (Key × PyData) → List (Int × List Int)
  | (.inl k, d) :: r => (k, intsD d) :: intsK r
  | _ :: r => intsK r
  | [] => []
theorem intsK_br : ∀ kvs : List (Int × List Int), intsK (brK kvs) = kvs
  | [] => rfl
  | p :: r => by
    have ih := intsK_br r
    show (p.1, intsD (.list (nums p.2))) :: intsK (brK r) = _
    rw [ih, intsD_nums]
def fbO (a : BrI) : Out := match a.ref, a with
  | some z, _ => .exn z
  | none, .dct kvs => .ret (.st (dS (briT (srtB (intsK kvs)))))
  | none, _ => .ret (.st .none)
theorem badP_no : ∀ {kvs : List (Key × PyData)}, badP kvs = none → ∃ bs, kvs = brK bs
  | [], _ => ⟨[], rfl⟩
  | p :: r, h => by
    unfold badP at h
    split at h
    · rename_i hw
      obtain ⟨bs, rfl⟩ := badP_no h
      obtain ⟨k, d⟩ := p
      rw [Bool.and_eq_true] at hw
      obtain ⟨h1, h2⟩ := hw
      cases k with
      | inr x => cases h1
      | inl k =>
        cases d with
        | list ds =>
          have h2 : broB (.list ds) = true := h2
          rw [broB_l, Bool.and_eq_true] at h2
          have : ∃ xs, ds = nums xs := by
            refine badV_none (i := 0) ?_
            have go : ∀ (ds : List PyData) (i : Nat), ds.all wholeD = true → badV ds i = none := by
              intro ds
              induction ds with
              | nil => intro i _; rfl
              | cons d r ih =>
                intro i h
                rw [List.all_cons, Bool.and_eq_true] at h
                unfold badV
                rw [if_pos h.1]
                exact ih _ h.2
            exact go ds 0 h2.2
          obtain ⟨xs, rfl⟩ := this
          exact ⟨(k, xs) :: bs, rfl⟩
        | _ => cases h2
    · cases h
theorem refB_no {kvs : List (Key × PyData)} (h : refB kvs = none) : ∃ bs, kvs = brK bs := by
  unfold refB at h
  split at h
  · cases h
  · exact badP_no h
def fLin (kvs : List (Int × List Int)) : PyData → Option PyData
  | .int k => some (dS (linT (k, getI kvs k)))
  | _ => none
theorem fLin_all (kvs : List (Int × List Int)) : ∀ ks : List Int, (nums ks).filterMap (fLin kvs) = dSs (ks.map fun k => linT (k, getI kvs k))
  | [] => rfl
  | x :: r => by
    have ih := fLin_all kvs r
    show dS (linT (x, getI kvs x)) :: (nums r).filterMap (fLin kvs) = _
    rw [ih]; rfl
def fSpc : PyData → Option PyData
  | .int x => some (dS ([32] ++ strI x))
  | _ => none
theorem fSpc_all : ∀ xs : List Int, (nums xs).filterMap fSpc = dSs (xs.map fun v => [32] ++ strI v)
  | [] => rfl
  | x :: r => by
    have ih := fSpc_all r
    show dS ([32] ++ strI x) :: (nums r).filterMap fSpc = _
    rw [ih]; rfl
def BrI.ints : BrI → List (Int × List Int)
  | .dct kvs => intsK kvs
  | _ => []
def okBr (kvs : List (Int × List Int)) : Prop := kvs.length ≤ 12 ∧ (kvs.map (·.1)).Nodup ∧ ∀ p ∈ kvs, smP p
abbrev s_format_brings : Stmt := top 20
theorem sc_format_brings : FnScope ["brings", "lines", "value", "key"] ["brings"] (defScope s_format_brings) := ⟨rfl, rfl, rfl, by decide +kernel, rfl, by decide +kernel, by decide +kernel⟩
def sp_format_brings : Rel := PureX (α := BrI) (fun a => a.ok ∧ (a.ref = none → okBr a.ints)) (fun a => [.val a.d]) (fun a => fbO a)
abbrev D_format_brings (P : Program) (w : World) (K : PySem.W.Frag) (mg : Str → Option Value) (base : Heap) : Prop := DefOk P w K mg base "format_brings" s_format_brings ["brings"] 4 (Prm K mg sp_format_brings)
set_option linter.unusedVariables false in
theorem b_format_brings {P : Program} {w : World} {K : PySem.W.Frag} {mg : Str → Option Value} {base : Heap} (A : At K mg "format_brings" s_format_brings ["brings"]) (T : Free K mg) (d_check_brings : D_check_brings P w K mg base) : D_format_brings P w K mg base := by
  obtain ⟨f, fd, hm, F, hb⟩ := A
  refine ⟨f, fd, hm, F, hb, pureX_fn F sc_format_brings (fun a => rfl) (fun a => rfl) (fun a => by unfold fbO; split <;> rfl) fun E B a ha => ?_⟩
  have nd : (["brings", "lines", "value", "key"] : List Str).Nodup := sc_format_brings.nd
  obtain ⟨ha1, ha2⟩ := (show a.ok ∧ (a.ref = none → okBr a.ints) from ha)
  cases e : a.ref with
  | some z => exact go_exprX (xv_call a d_check_brings (av_cons (ev_val (d := a.d) 0) av_nil) (.st .nil) ha1 (by show outN a.ref = _; rw [e]; rfl)) (by show fbO a = _; unfold fbO; rw [e])
  | none =>
    cases a with
    | bk => cases e
    | oth d => cases e
    | dct ps =>
      have e2 : refB ps = none := e
      obtain ⟨kvs, rfl⟩ := refB_no e2
      have ha2 : okBr (intsK (brK kvs)) := ha2 e
      rw [intsK_br] at ha2
      obtain ⟨h1, h2, h3⟩ := ha2
      refine go_expr (ev_callO (BrI.dct (brK kvs)) d_check_brings (av_cons (ev_val (d := dD (brK kvs)) 0) av_nil) (.st .nil) ha1 (k := .st .none) (by show outN (BrI.ref _) = _; rw [e]; rfl)) ?_
      have hsz : ∀ k ∈ srtK kvs, smP (k, getI kvs k) := fun k hk => h3 _ (getI_in (srtK_mem.mp hk)).1
      refine go_setC 1 [("key", 3)] (fLin kvs) (ei_ls (ds := nums (srtK kvs)) (ev_sortedD (ns := kvs.map (·.1)) (ev_val (d := dD (brK kvs)) 0) T.sorted .st (keysBr kvs) (by rw [List.length_map]; omega) (sort_ok _).1 (sort_ok _).2)) (fun i d hd => ?_) (by rw [len_nums, srtK_len]; omega) (fLin_all kvs (srtK kvs)) ?_
      · obtain ⟨k, hk, rfl⟩ := nums_get hd
        have hk := List.mem_of_getElem? hk
        have hp := hsz k hk
        have hk1 : (strI k).length ≤ 21 := strI_sm hp.1
        have hvl := hp.2.1
        have hvl : (getI kvs k).length ≤ 12 := hvl
        have hsp : ∀ l ∈ (getI kvs k).map (fun v => [32] ++ strI v), l.length ≤ 22 := fun l hl => by
          obtain ⟨v, hv, rfl⟩ := List.mem_map.mp hl
          rw [List.length_append]
          exact Nat.add_le_add_left (strI_sm (hp.2.2 v hv)) 1
        have hj : ((((getI kvs k).map fun v => [32] ++ strI v)).map List.length).sum ≤ 12 * 22 := Nat.le_trans (sum_bd _ hsp) (Nat.mul_le_mul_right _ (by rw [List.length_map]; exact hvl))
        have hjl : (TL.joinL [] ((getI kvs k).map fun v => [32] ++ strI v)).length ≤ 299 := by
          have := linT_sz hp
          rw [linT_app, List.length_append] at this
          omega
        refine ⟨_, _, true, gt_name 3, by decide, tvs_nil, fun _ => ⟨_, rfl, EV.to (ev_addT (ev_addT (ev_strI (ev_val (d := .int k) 3) T.str (sm_big hp.1)) (ev_strT (x := [58])) (by show (strI k).length + 1 ≤ _; omega)) (ev_join (x := []) (ls := (getI kvs k).map fun v => [32] ++ strI v) (ev_strT (x := [])) (EV.to (ev_comp [("value", 2)] fSpc (ei_list (ds := nums (getI kvs k)) (ev_dix (k := .inl k) (ev_val (d := dD (brK kvs)) 0) (ev_val (d := .int k) 3) .st (getI_in (srtK_mem.mp hk)).2)) (fun j v hv => ?_) (by rw [len_nums]; omega)) (k' := .fr (.lst (dSs ((getI kvs k).map fun v => [32] ++ strI v)))) (by rw [fSpc_all])) .fr (by rw [List.length_nil, Nat.mul_zero]; omega)) (by rw [List.length_append]; show (strI k).length + 1 + _ ≤ _; omega)) (by rw [linT_app])⟩, fun h => nomatch h⟩
        obtain ⟨y, hy, rfl⟩ := nums_get hv
        have hy := hp.2.2 y (List.mem_of_getElem? hy)
        exact ⟨_, _, true, gt_name 2, by decide, tvs_nil, fun _ => ⟨_, rfl, ev_addT (ev_strT (x := [32])) (ev_strI (ev_val (d := .int y) 2) T.str (sm_big hy)) (by have := strI_sm hy; show 1 + _ ≤ _; omega)⟩, fun h => nomatch h⟩
      refine go_ret (ev_join (ls := (srtK kvs).map fun k => linT (k, getI kvs k)) (ev_strT (x := [10])) (ev_own 1) .ls (join_bd (N := 299) (m := 12) (by rw [List.length_map, srtK_len]; exact h1) (fun l hl => ?_) (by decide))) ?_
      · obtain ⟨k, hk, rfl⟩ := List.mem_map.mp hl
        exact linT_sz (hsz k hk)
      · show fbO (.dct (brK kvs)) = _
        unfold fbO
        rw [e]
        show Out.ret (.st (dS (briT (srtB (intsK (brK kvs)))))) = _
        rw [intsK_br]
        unfold briT srtB
        rw [List.map_map]; rfl
def brL (kvs : List (Int × List Int)) : List (Key × List PyData) := kvs.map fun p => (.inl p.1, nums p.2)
theorem brL_T (kvs : List (Int × List Int)) : lsT (brL kvs) = brT kvs := by unfold lsT brL brT; rw [List.map_map]; rfl
theorem take_succ {kvs : List (Int × List Int)} {i : Nat} {p : Int × List Int} (h : kvs[i]? = some p) : kvs.take (i + 1) = kvs.take i ++ [p] := by rw [List.take_add_one, h]; rfl
theorem brT_app (a b : List (Int × List Int)) : brT (a ++ b) = brT a ++ brT b := List.map_append
theorem asc_lt {kvs : List (Int × List Int)} (h : AscK kvs) {i j : Nat} {p q : Int × List Int} (hp : kvs[i]? = some p) (hq : kvs[j]? = some q) (hij : i < j) : p.1 < q.1 := by
  unfold AscK at h
  obtain ⟨h1, rfl⟩ := List.getElem?_eq_some_iff.mp hp
  obtain ⟨h2, rfl⟩ := List.getElem?_eq_some_iff.mp hq
  have := List.pairwise_iff_getElem.mp h i j (by rw [List.length_map]; exact h1) (by rw [List.length_map]; exact h2) hij
  simpa using this
theorem take_key {kvs : List (Int × List Int)} {i : Nat} {y : Int} (h : y ∈ (kvs.take i).map (·.1)) : ∃ j q, j < i ∧ kvs[j]? = some q ∧ q.1 = y := by
  obtain ⟨q, hq, rfl⟩ := List.mem_map.mp h
  obtain ⟨j, hj, e⟩ := List.mem_iff_getElem.mp hq
  rw [List.length_take] at hj
  refine ⟨j, q, by omega, ?_, rfl⟩
  rw [List.getElem_take] at e
  rw [List.getElem?_eq_getElem (by omega), e]
abbrev s_parse_brings : Stmt := top 22
theorem sc_parse_brings : FnScope ["text", "lines", "told", "index", "line", "pair"] ["text"] (defScope s_parse_brings) := ⟨rfl, rfl, rfl, by decide +kernel, rfl, by decide +kernel, by decide +kernel⟩
def sp_parse_brings : Rel := Pure (α := List (Int × List Int)) (fun a => a.length ≤ 12 ∧ AscK a ∧ ∀ p ∈ a, smP p) (fun a => [.val (dS (briT a))]) (fun a => .ft (.dct (brT a)))
abbrev D_parse_brings (P : Program) (w : World) (K : PySem.W.Frag) (mg : Str → Option Value) (base : Heap) : Prop := DefOk P w K mg base "parse_brings" s_parse_brings ["text"] 4 (Prm K mg sp_parse_brings)
set_option linter.unusedVariables false in
theorem b_parse_brings {P : Program} {w : World} {K : PySem.W.Frag} {mg : Str → Option Value} {base : Heap} (A : At K mg "parse_brings" s_parse_brings ["text"]) (T : Free K mg) (d_line_of : D_line_of P w K mg base) : D_parse_brings P w K mg base := by
  obtain ⟨f, fd, hm, F, hb⟩ := A
  refine ⟨f, fd, hm, F, hb, pure_fn F sc_parse_brings (fun a => rfl) (fun a => rfl) (fun a => rfl) fun E B a ha => ?_⟩
  have nd : (["text", "lines", "told", "index", "line", "pair"] : List Str).Nodup := sc_parse_brings.nd
  obtain ⟨h1, h2, h3⟩ := (show a.length ≤ 12 ∧ AscK a ∧ ∀ p ∈ a, smP p from ha)
  have hz := briT_sz h1 h3
  refine go_skip (tv_not (tv_val (ev_isB .str (ev_val 0) T.isinstance T.str))) (by rfl) ?_
  refine go_set 1 (ev_ifS (k := .st (.list (dSs (a.map linT)))) (CM.tv (cm_neT (ev_val 0) (ev_strT (x := [])))) (fun h => EV.to (EV.fz (ev_split (s := 10) (ev_val 0) (ev_strT (x := [10])) (by decide) (by omega))) ?_) fun h => EV.to (EV.fz (ev_lst av_nil .nil)) ?_) ?_
  · have h : ¬ briT a = [] := by simpa using h
    rw [splitL_sp, briT_sp fun e => h (by rw [e]; rfl)] <;> rfl
  · have h : briT a = [] := by simpa using h
    cases a with
    | nil => rfl
    | cons x r => exact absurd h (briT_ne (by simp))
  refine go_skip (CM.tv (cm_gt (ev_len (ds := dSs (a.map linT)) (ev_val 1) T.len) (ev_gint T.MOST_KEYS))) (by rw [len_dSs, List.length_map]; exact decide_eq_false (by omega)) ?_
  refine go_setP 2 evp_dnew fun fp0 => ?_
  refine go_cons (M := fun sl => ∃ fp x3 x4 x5, sl = [.val (dS (briT a)), .val (.list (dSs (a.map linT))), .prv (.dct (brT a)) fp, x3, x4, x5]) (g1_for (ei_enum (ev_val 1) T.enumerate) (fun i sl => ∃ fp x3 x4 x5, sl = [.val (dS (briT a)), .val (.list (dSs (a.map linT))), .prv (.dct (brT (a.take i))) fp, x3, x4, x5]) ⟨_, _, _, _, rfl⟩ (fun i d sl hd h => ?_) fun sl h => ?_) fun sl h => ?_
  · obtain ⟨fp, x3, x4, x5, rfl⟩ := h
    obtain ⟨d0, hd0, rfl⟩ := numbered_inv hd
    obtain ⟨l, hl, rfl⟩ := dSs_get hd0
    rw [List.getElem?_map] at hl
    obtain ⟨p, hp, rfl⟩ := Option.map_eq_some_iff.mp hl
    have hpm := h3 p (List.mem_of_getElem? hp)
    have hil : i < a.length := (List.getElem?_eq_some_iff.mp hp).1
    refine ⟨_, _, gt_tup (gts_cons (gt_name 3) (gts_cons (gt_name 4) gts_nil)), ?_⟩
    refine go_setP 5 (evp_callP p d_line_of (av_cons (ev_val 4) av_nil) (.st .nil) hpm) fun fp5 => ?_
    have hno : (p.1) ∉ (a.take i).map (·.1) := fun m => by
      obtain ⟨j, q, hj, hq, e⟩ := take_key m
      have := asc_lt h2 hq hp hj
      omega
    refine go_skip (t := false) (tv_to (tv_or (u := false) (q := true) (CM.tv (cm_isNW (ev_prv 5))) fun _ => ?_) (by rfl)) rfl ?_
    · cases i with
      | zero => exact tv_to (tv_and (u := true) (q := true) (CM.tv (cm_neW0 (kvs := brK (a.take 0)) (EV.to (ev_prv 2) (by rw [brT_d])))) fun h => by cases h) (by rfl)
      | succ n =>
        have hn : n < a.length := by omega
        have hm1 : (a[n]'hn).1 ∈ (a.take (n + 1)).map (·.1) := List.mem_map.mpr ⟨a[n]'hn, List.mem_take_iff_getElem.mpr ⟨n, by omega, rfl⟩, rfl⟩
        have hm2 : ∀ y ∈ (a.take (n + 1)).map (·.1), y ≤ (a[n]'hn).1 := fun y hy => by
          obtain ⟨j, q, hj, hq, e⟩ := take_key hy
          by_cases ej : j = n
          · subst ej
            rw [List.getElem?_eq_getElem hn] at hq
            cases hq
            omega
          · have := asc_lt h2 hq (List.getElem?_eq_getElem hn) (by omega)
            omega
        have hlt := asc_lt h2 (List.getElem?_eq_getElem hn) hp (by omega)
        refine tv_to (tv_and (q := true) (u := decide (p.1 ≤ (a[n]'hn).1)) (CM.tv (cm_neW0 (kvs := brK (a.take (n + 1))) (EV.to (ev_prv 2) (by rw [brT_d])))) fun _ => ?_) (by rw [decide_eq_false (by omega), Bool.and_false])
        refine CM.tv (cm_le (p := true) (q := true) ?_ (ev_maxW (ns := (a.take (n + 1)).map (·.1)) (m := (a[n]'hn).1) (kvs := brK (a.take (n + 1))) (EV.to (ev_prv 2) (by rw [brT_d])) T.max (keysBr _) hm1 hm2))
        exact EV.flat (d := .int p.1) (ev_ixWT (d := .int p.1) (ds := [.int p.1, .list (nums p.2)]) (ev_prv (t := .tup [.st (.int p.1), .ls (nums p.2)]) 5) ev_int (atI_nat (j := 0) rfl)) rfl
    refine go_dnewM (k := .inl p.1) (t := .ls (nums p.2)) (kvs := brT (a.take i)) 2 5 (evm_ixT 1 (evm_name 5) ev_int rfl) (EV.flat (d := .int p.1) (ev_ixWT (d := .int p.1) (ds := [.int p.1, .list (nums p.2)]) (ev_prv (t := .tup [.st (.int p.1), .ls (nums p.2)]) 5) ev_int (atI_nat (j := 0) rfl)) rfl) (brT_no hno) (fun fp2 => go_nil ⟨fp2, .val (.int (i : Nat)), .val (dS (linT p)), .no, by rw [take_succ hp, brT_app]; rfl⟩) (by unfold brT; rw [List.length_map, List.length_take]; omega)
  · obtain ⟨fp, x3, x4, x5, rfl⟩ := h
    have hl : (numbered (dSs (a.map linT))).length = a.length := by rw [numbered_len, len_dSs, List.length_map]
    rw [hl, List.take_length]
    exact ⟨_, _, _, _, rfl⟩
  obtain ⟨fp, x3, x4, x5, rfl⟩ := h
  exact go_retP 2 rfl
-- CUT
theorem kw_fv : KwOk "format_values" s_format_values ["values"] ["values"] 0 [0] := fun _ _ _ _ _ _ us ws h1 h2 => match us, ws, h1, h2 with
  | [], [_], _, _ => rfl
theorem kw_fb : KwOk "format_brings" s_format_brings ["brings"] ["brings"] 0 [0] := fun _ _ _ _ _ _ us ws h1 h2 => match us, ws, h1, h2 with
  | [], [_], _, _ => rfl
theorem kw_pv : KwOk "parse_values" s_parse_values ["text"] ["text"] 0 [0] := fun _ _ _ _ _ _ us ws h1 h2 => match us, ws, h1, h2 with
  | [], [_], _, _ => rfl
theorem kw_pb : KwOk "parse_brings" s_parse_brings ["text"] ["text"] 0 [0] := fun _ _ _ _ _ _ us ws h1 h2 => match us, ws, h1, h2 with
  | [], [_], _, _ => rfl
theorem smI_ok {x : Int} (h : okBv x) : smI x := by
  unfold okBv at h
  rw [bvFar_eq] at h
  unfold smI
  omega
def vMost (s : Dr) : Int := if s.v % 2 = 0 then 60 else 120
theorem vMost_bd (s : Dr) : 0 ≤ vMost s ∧ vMost s ≤ 120 := by unfold vMost; split <;> decide
def vStep (x : List Int × Dr) : List Int × Dr := (x.1 ++ [bvV x.2.v], x.2.nx)
def vMany (s : Dr) : Nat := (s.nx.v % (vMost s + 1)).toNat
def vAll (s : Dr) : List Int × Dr := itN vStep (vMany s) ([], s.nx.nx)
theorem vMany_le (s : Dr) : vMany s ≤ 120 := by
  have h := vMost_bd s
  have := mdB s.nx.v (vMost s + 1) (by omega)
  unfold vMany; omega
theorem vIt (s : Dr) (n i : Nat) (hs : s.ok n) : (itN vStep i ([], s)).1.length = i ∧ (∀ x ∈ (itN vStep i ([], s)).1, smI x) ∧ (itN vStep i ([], s)).2.ok (n + i) := by
  refine itN_inv (J := fun (i : Nat) (x : List Int × Dr) => x.1.length = i ∧ (∀ y ∈ x.1, smI y) ∧ x.2.ok (n + i)) (fun i x h => ?_) i _ ⟨rfl, by simp, hs⟩
  obtain ⟨h1, h2, h3⟩ := h
  refine ⟨by show (x.1 ++ [_]).length = _; rw [List.length_append, List.length_singleton, h1], fun y hy => ?_, h3.nx⟩
  rcases List.mem_append.mp hy with hy | hy
  · exact h2 y hy
  · rw [List.mem_singleton.mp hy]; exact smI_ok (bvV_ok _)
theorem vAll_ok (s : Dr) (n : Nat) (hs : s.ok n) : (vAll s).1.length ≤ 120 ∧ (∀ x ∈ (vAll s).1, smI x) ∧ (vAll s).2.ok (n + 122) := by
  obtain ⟨h1, h2, h3⟩ := vIt s.nx.nx _ (vMany s) hs.nx.nx
  have := vMany_le s
  exact ⟨by unfold vAll; omega, h2, h3.up⟩
theorem two_mem {a b d : PyData} (h : d ∈ [a, b]) : d = a ∨ d = b := by
  rcases List.mem_cons.mp h with h | h
  · exact .inl h
  · exact .inr (List.mem_singleton.mp h)
theorem rk_int {x : Int} (h : smI x) : Rk 0 101 (.int x) := Rk.int (Nat.lt_trans h (by decide))
theorem rk_nums {xs : List Int} {m : Nat} (hl : xs.length ≤ m) (h : ∀ x ∈ xs, smI x) : Rk 1 (m * 103 + 3) (.list (nums xs)) := Rk.listN (fun d hd => by obtain ⟨x, hx, rfl⟩ := nums_mem hd; exact rk_int (h x hx)) (by rw [len_nums]; exact hl)
theorem rk_two {b n : Nat} {d : PyData} (h : Rk b n d) : Rk (b + 1) (2 * (n + 2) + 3) (.list [d, d]) := Rk.listN (fun e he => by
  rcases two_mem he with rfl | rfl <;> exact h) (Nat.le_refl 2)
theorem pln2_nums (xs : List Int) : pln2 (.list (nums xs)) = true := by
  unfold pln2
  rw [show plnD (.list (nums xs)) = true from rfl, Bool.true_and]
  exact pln_nums xs
theorem tok_dS {l : List Nat} (h : ∀ c ∈ l, c < 1114112) : TOk (tx l) := fun c hc => by
  rw [tl_tx] at hc
  exact h c hc
theorem join_sg {s : Nat} (hs : s < 1114112) : ∀ {ls : List (List Nat)}, (∀ l ∈ ls, ∀ c ∈ l, c < 1114112) → ∀ c ∈ TL.joinL [s] ls, c < 1114112
  | [], _, c, h => nomatch h
  | [p], h, c, hc => h p List.mem_cons_self c hc
  | p :: q :: r, h, c, hc => by
    rw [join_cons (by simp)] at hc
    rcases List.mem_append.mp hc with hc | hc
    · exact h p List.mem_cons_self c hc
    · rcases List.mem_append.mp hc with hc | hc
      · rw [List.mem_singleton.mp hc]; exact hs
      · exact join_sg hs (fun l hl => h l (List.mem_cons_of_mem _ hl)) c hc
theorem valT_sg (xs : List Int) : ∀ c ∈ valT xs, c < 1114112 := join_sg (by decide) fun l hl => by
  obtain ⟨x, _, rfl⟩ := List.mem_map.mp hl
  exact strI_sg x
theorem linT_sg (p : Int × List Int) : ∀ c ∈ linT p, c < 1114112 := join_sg (by decide) fun l hl => by
  rcases List.mem_cons.mp hl with rfl | hl
  · intro c hc
    rcases List.mem_append.mp hc with hc | hc
    · exact strI_sg _ c hc
    · rw [List.mem_singleton.mp hc]; decide
  · obtain ⟨x, _, rfl⟩ := List.mem_map.mp hl
    exact strI_sg x
theorem briT_sg (kvs : List (Int × List Int)) : ∀ c ∈ briT kvs, c < 1114112 := join_sg (by decide) fun l hl => by
  obtain ⟨x, _, rfl⟩ := List.mem_map.mp hl
  exact linT_sg x
theorem ce_twoT {l : List Nat} (h : ∀ c ∈ l, c < 1114112) : Ce 1 (.list [dS l, dS l]) := Ce.list (b := 0) fun d hd => by
  rcases two_mem hd with rfl | rfl <;> exact Ce.str (tok_dS h)
theorem fvO_nums {xs : List Int} (h : xs.length ≤ 120) : fvO (.list (nums xs)) = .ret (.st (dS (valT xs))) := by
  unfold fvO
  rw [refV_nums h, intsD_nums]
theorem pre_fv {xs : List Int} (h : ∀ x ∈ xs, smI x) : pln2 (.list (nums xs)) = true ∧ (refV (.list (nums xs)) = none → ∀ x ∈ intsD (.list (nums xs)), smI x) := ⟨pln2_nums xs, fun _ => by rw [intsD_nums]; exact h⟩
abbrev s_law_values_right : Stmt := top 29
theorem sc_law_values_right : FnScope ["_law_draws_here", "_law_most", "_law_a_values", "_law_kept_here", "_law_a_text", "_law_told", "_law_named", "_law_turn", "_law_value_here"] ["_law_draws_here"] (defScope s_law_values_right) := ⟨rfl, rfl, rfl, by decide +kernel, rfl, by decide +kernel, by decide +kernel⟩
def sp_law_values_right : Rel := Chg (α := Dr) (fun s => s.ok 800000000) (fun s => [.io 0 s.ow]) (fun s => .st (.bool true)) (fun s => [.io 0 (vAll s).2.ow])
abbrev D_law_values_right (P : Program) (w : World) (K : PySem.W.Frag) (mg : Str → Option Value) (base : Heap) : Prop := DefOk P w K mg base "_law_values_right" s_law_values_right ["_law_draws_here"] 4 (Prm K mg sp_law_values_right)
set_option linter.unusedVariables false in
theorem b_law_values_right {P : Program} {w : World} {K : PySem.W.Frag} {mg : Str → Option Value} {base : Heap} (A : At K mg "_law_values_right" s_law_values_right ["_law_draws_here"]) (T : Free K mg) (d_law_next : D_law_next P w K mg base) (d_format_values : D_format_values P w K mg base) (d_parse_values : D_parse_values P w K mg base) (d_law_value : D_law_value P w K mg base) : D_law_values_right P w K mg base := by
  obtain ⟨f, fd, hm, F, hb⟩ := A
  refine ⟨f, fd, hm, F, hb, chg_fn F sc_law_values_right (fun a => rfl) (fun a => .io .nil) (fun a => rfl) fun E B a ha => ?_⟩
  have nd : (["_law_draws_here", "_law_most", "_law_a_values", "_law_kept_here", "_law_a_text", "_law_told", "_law_named", "_law_turn", "_law_value_here"] : List Str).Nodup := sc_law_values_right.nd
  have hs : a.ok 800000000 := ha
  have hm := vMost_bd a
  have mm := mdB a.nx.v (vMost a + 1) (by omega)
  obtain ⟨v1, v2, v3⟩ := vAll_ok a _ hs
  refine go_set 1 (ev_if (k := .st (.int (vMost a))) (sl2 := [.io 0 a.nx.ow, .no, .no, .no, .no, .no, .no, .no, .no]) (CM.tv (cm_eqI (ev_mod (ev_intI (ev_callX 0 (a).nx.ow a d_law_next (av_cons (ev_at 0) av_nil) (.here .nil) hs.up (hio_cons rfl)) T.int) ev_int (by decide)) ev_int)) (fun h => EV.to (k' := .st (.int (vMost a))) (ev_int (i := 60)) (by unfold vMost; rw [if_pos (of_decide_eq_true h)])) (fun h => EV.to (k' := .st (.int (vMost a))) (ev_int (i := 120)) (by unfold vMost; rw [if_neg (of_decide_eq_false h)]))) ?_
  refine go_setX 2 [("_law_turn", 7)] (fun i => nums (itN vStep i ([], a.nx.nx)).1) (fun i => [.io 0 (itN vStep i ([], a.nx.nx)).2.ow, kI (vMost a), .no, .no, .no, .no, .no, .no, .no]) (ei_range1 (ev_mod (ev_intI (ev_callX 0 (a.nx).nx.ow a.nx d_law_next (av_cons (ev_at 0) av_nil) (.here .nil) hs.nx.up (hio_cons rfl)) T.int) (ev_add (ev_val 1) ev_int) (by omega)) (by omega) T.range) (fun i d hd => ?_) ?_ (by rw [upI_len]; show vMany a ≤ _; have := vMany_le a; omega)
  · have hi : i < vMany a := by
      have := (List.getElem?_eq_some_iff.mp hd).1
      rw [upI_len] at this
      exact this
    have hi2 := vMany_le a
    obtain ⟨q1, q2, q3⟩ := vIt a.nx.nx _ i hs.nx.nx
    show ∃ js s2 s3 s4 b q1 q2, _ ∧ _ ∧ _ ∧ _ ∧ _ ∧ (_ → ∃ d', nums (vStep (itN _ i _)).1 = _ ∧ _ ∧ _ = [Sl.io 0 (vStep (itN _ i _)).2.ow, _, _, _, _, _, _, _, _]) ∧ (_ → _)
    generalize itN vStep i ([], a.nx.nx) = T1 at q1 q2 q3 ⊢
    obtain ⟨t, z⟩ := T1
    have q3 : z.ok (800000000 + 1 + 1 + i) := q3
    refine ⟨_, _, _, [Sl.io 0 z.nx.ow, kI (vMost a), .no, .no, .no, .no, .no, .val d, .no], true, true, false, gt_name 7, by decide, rfl, rfl, tvx_nil, fun _ => ⟨.int (bvV z.v), (nums_snoc t _).symm, ?_, rfl⟩, fun h => nomatch h⟩
    exact ev_sl (EV.im (ev_callX 0 z.nx.ow z d_law_value (av_cons (ev_at 0) av_nil) (.here .nil) q3.up (hio_cons rfl)) (fun h => nomatch h)) rfl
  rw [upI_len]
  show GO _ _ _ [.io 0 (vAll a).2.ow, kI (vMost a), kO (vAll a).1, .no, .no, .no, .no, .no, .no] _
  show GO _ _ _ _ (toRt _ [.io 0 (vAll a).2.ow])
  generalize vAll a = V at v1 v2 v3 ⊢
  obtain ⟨xs, s⟩ := V
  have v1 : xs.length ≤ 120 := v1
  have v2 : ∀ x ∈ xs, smI x := v2
  refine go_frz 2 ?_
  have rk := rk_nums v1 v2
  refine go_set 3 (ev_repr (ev_val 2) T.repr (rk.mono (by decide) (Nat.le_refl _))) ?_
  refine go_set 4 (EV.to (ev_join (ls := xs.map strI) (ev_strT (x := [32])) (EV.to (ev_comp [("_law_value_here", 8)] fStr (ei_list (ds := nums xs) (ev_val 2)) (fun i d hd => ?_) (by rw [len_nums]; omega)) (k' := .fr (.lst (dSs (xs.map strI)))) (by rw [fStr_nums])) .fr (join_bd (N := 21) (m := 120) (by rw [List.length_map]; exact v1) (map_sm v2) (by decide))) (k' := .st (dS (valT xs))) rfl) ?_
  · obtain ⟨x, hx, rfl⟩ := nums_get hd
    exact ⟨_, _, true, gt_name 8, by decide, tvs_nil, fun _ => ⟨_, rfl, ev_strI (ev_val 8) T.str (sm_big (v2 x (List.mem_of_getElem? hx)))⟩, fun h => nomatch h⟩
  have pf := pre_fv v2
  have of := fvO_nums v1
  have ct := ce_twoT (valT_sg xs)
  have hz := valT_sz v1 v2
  refine go_skip (tv_or (CM.tv (cm_neD (d1 := .list [dS (valT xs), dS (valT xs)]) (d2 := .list [dS (valT xs), dS (valT xs)]) (ev_lst (av_cons (ev_callO (PyData.list (nums xs)) d_format_values (av_cons (ev_val 2) av_nil) (.st .nil) pf (k := .st (dS (valT xs))) of) (av_cons (ev_callKkO (PyData.list (nums xs)) d_format_values.toK kw_fv (kv_cons (ev_val 2) kv_nil) (.st .nil) pf (k := .st (dS (valT xs))) of) av_nil)) (.cons (.cons .nil))) (ev_lst (av_cons (ev_val 4) (av_cons (ev_val 4) av_nil)) (.cons (.cons .nil))) .fr .fr (ct.can (by decide)) (ct.can (by decide)))) fun _ => CM.tv (cm_neS (ev_repr (ev_val 2) T.repr (rk.mono (by decide) (Nat.le_refl _))) (ev_val 3))) (by rw [ct.self]; simp) ?_
  refine go_leave (CM.tv (cm_gt (ev_lenT (ev_val 4) T.len (by omega)) ev_int)) (fun _ => go_ret ev_bl ⟨rfl, ioin_cons rfl rfl⟩) fun _ => ?_
  refine go_parG2 (t1 := .ls (nums xs)) (t2 := .ls (nums xs)) 5 6 (avg_cons (evg_p (evp_callP xs d_parse_values (av_cons (ev_val 4) av_nil) (.st .nil) ⟨v1, v2⟩)) (avg_cons (evg_p (evp_callPk xs d_parse_values kw_pv (kv_cons (ev_val 4) kv_nil) (.st .nil) ⟨v1, v2⟩)) avg_nil)) fun f1 f2 => ?_
  refine go_skip (CM.tv (cm_neS (ev_repr (d := .list [.list (nums xs), .list (nums xs)]) (ev_lstW (av_cons (ev_own 5) (av_cons (ev_own 6) av_nil)) (.cons .ls (.cons .ls .nil))) T.repr ((rk_two rk).mono (by decide) (Nat.le_refl _))) (ev_repr (d := .list [.list (nums xs), .list (nums xs)]) (ev_lst (av_cons (ev_val 2) (av_cons (ev_val 2) av_nil)) (.cons (.cons .nil))) T.repr ((rk_two rk).mono (by decide) (Nat.le_refl _))))) (by simp) ?_
  refine go_append (ds := nums xs) 5 ev_non (hl := by rw [len_nums]; omega) ?_
  exact go_ret (EV.to (CM.ev (cm_eqN (xs := xs) (ys := xs) (EVP.fz (evp_callP xs d_parse_values (av_cons (ev_val 4) av_nil) (.st .nil) ⟨v1, v2⟩)) (ev_val 2)   )) (by simp)) ⟨rfl, ioin_cons rfl rfl⟩
-- CUT
theorem mxF_0 {ks : List Int} : 0 ≤ mxF ks := (mxF_ok ks).2 0 (by simp)
theorem near_sm {ks : List Int} : ∀ x ∈ nearF ks, smI x := fun x hx => by
  have := of_decide_eq_true (List.mem_filter.mp hx).2
  rw [bvFar_eq] at this
  unfold absF at this
  unfold smI
  split at this <;> omega
theorem poolF_sm {ends : Bool} {ks : List Int} {i : Nat} (h : ∀ x ∈ ks, okBv x) : ∀ x ∈ poolF ends ks i, smI x := fun x hx => by
  unfold poolF at hx
  rcases List.mem_append.mp hx with hx | hx
  · unfold laterF at hx
    split at hx
    · exact smI_ok (h x (List.mem_of_mem_drop hx))
    · exact smI_ok (h x hx)
  · have hx := (List.mem_filter.mp hx).1
    rcases List.mem_append.mp hx with hx | hx
    · simp only [List.mem_cons, List.not_mem_nil, or_false] at hx
      unfold smI; omega
    · exact near_sm x hx
theorem brEl_mem {pool : List Int} (h : 0 < pool.length) (p : Int) : brEl pool p ∈ pool := by
  have hb := mdB p pool.length (by omega)
  unfold brEl
  have hj : (p % (pool.length : Int)).toNat < pool.length := by omega
  rw [List.getElem?_eq_getElem hj]
  exact List.getElem_mem hj
theorem brRow_mem {pool : List Int} (h : 0 < pool.length) (n : Nat) (s : Dr) : ∀ x ∈ (itN (brStep pool) n ([], s)).1, x ∈ pool :=
  itN_inv (J := fun _ (y : List Int × Dr) => ∀ x ∈ y.1, x ∈ pool) (fun i y hy x hx => by
    rcases List.mem_append.mp hx with hx | hx
    · exact hy x hx
    · rw [List.mem_singleton.mp hx]; exact brEl_mem h _) n _ (fun x hx => nomatch hx)
theorem brOut_sm {ends : Bool} {ks : List Int} (h : ∀ x ∈ ks, okBv x) (most : Int) : ∀ (i : Nat) (s : Dr), i ≤ ks.length → ∀ p ∈ (brOut ends ks most i s).1, smI p.1 ∧ ∀ v ∈ p.2, smI v
  | 0, _, _ => fun p hp => nomatch hp
  | i + 1, s, hi => fun p hp => by
    rcases List.mem_append.mp hp with hp | hp
    · exact brOut_sm h most i s (by omega) p hp
    · rw [List.mem_singleton.mp hp]
      refine ⟨?_, fun v hv => poolF_sm h v (brRow_mem (by have := freeF_pos h; unfold poolF; rw [List.length_append]; omega) _ _ v hv)⟩
      show smI (ks[i]?.getD 0)
      rw [List.getElem?_eq_getElem (by omega)]
      exact smI_ok (h _ (List.getElem_mem _))
theorem brAll_br (ends : Bool) (s : Dr) (n : Nat) (hs : s.ok n) : okBr (brAll ends s).1 := by
  obtain ⟨k1, k2, k3, k4⟩ := bvKeys_ok s n hs
  obtain ⟨hl, h12, _⟩ := brOut_ok ends (bvKeys s).1 (brMost_bd (bvKeys s).2) (bvKeys s).1.length _ _ k4.nx
  refine ⟨by unfold brAll; rw [hl]; exact k3, ?_, fun p hp => ?_⟩
  · unfold brAll
    rw [brOut_keys _ _ _ _ _ (Nat.le_refl _), List.take_length]
    exact k1
  · have := brOut_sm k2 _ _ _ (Nat.le_refl _) p hp
    exact ⟨this.1, h12 p hp, this.2⟩
theorem rk_brK {kvs : List (Int × List Int)} (h : okBr kvs) : Rw 3 50000 (dD (brK kvs)) :=
  (Rw.dctN (b := 1) (n := 1239) (m := 12) (fun q hq => by
    obtain ⟨p, hp, rfl⟩ := List.mem_map.mp hq
    have hp := h.2.2 p hp
    exact ⟨((rk_int hp.1).mono (by decide) (by decide)).w, ((rk_nums hp.2.1 hp.2.2).mono (by decide) (by decide)).w⟩) (by unfold brK; rw [List.length_map]; exact h.1)).mono (by decide) (by decide)
/-- its pairs -/
def prI (kvs : List (Int × List Int)) : List PyData := kvs.map fun p => .tuple [.int p.1, .list (nums p.2)]
theorem prI_D (kvs : List (Int × List Int)) : pairD (brK kvs) = prI kvs := by unfold pairD brK prI; rw [List.map_map]; rfl
theorem prI_T (kvs : List (Int × List Int)) : prsT (brT kvs) = prI kvs := by unfold prsT brT prI; rw [List.map_map]; rfl
theorem rk_prI {kvs : List (Int × List Int)} (hl : kvs.length ≤ 12) (h : ∀ p ∈ kvs, smP p) : Rk 3 40000 (.list (prI kvs)) :=
  (Rk.listN (b := 2) (n := 2485) (m := 12) (fun d hd => by
    obtain ⟨p, hp, rfl⟩ := List.mem_map.mp hd
    have hp := h p hp
    exact (Rk.tupleN (b := 1) (n := 1239) (m := 2) (fun e he => by
      rcases two_mem he with rfl | rfl
      · exact (rk_int hp.1).mono (by decide) (by decide)
      · exact (rk_nums hp.2.1 hp.2.2).mono (by decide) (by decide)) (show [PyData.int p.1, .list (nums p.2)].length ≤ 2 from Nat.le_refl 2)).mono (by decide) (by decide)) (by unfold prI; rw [List.length_map]; exact hl)).mono (by decide) (by decide)
theorem sort_perm {xs ys : List Int} (h : xs.Perm ys) : xs.mergeSort (fun a b => decide (a ≤ b)) = ys.mergeSort (fun a b => decide (a ≤ b)) :=
  List.Perm.eq_of_pairwise (le := fun (a b : Int) => a ≤ b) (fun a b _ _ h1 h2 => by omega) (sort_ok xs).2 (sort_ok ys).2 ((sort_ok xs).1.trans (h.trans (sort_ok ys).1.symm))
theorem getI_uniq {kvs : List (Int × List Int)} (hnd : (kvs.map (·.1)).Nodup) {k : Int} {vs : List Int} (h : (k, vs) ∈ kvs) : getI kvs k = vs := by
  induction kvs with
  | nil => cases h
  | cons p r ih =>
    rw [List.map_cons, List.nodup_cons] at hnd
    rcases List.mem_cons.mp h with e | h
    · subst e
      unfold getI; rw [List.find?_cons_of_pos (by simp)]; rfl
    · have hne : ¬ p.1 = k := fun z => hnd.1 (by rw [z]; exact List.mem_map.mpr ⟨_, h, rfl⟩)
      have := ih hnd.2 h
      unfold getI at this ⊢
      rw [List.find?_cons_of_neg (by simpa using hne)]
      exact this
theorem nodup_rev {xs : List Int} (h : xs.Nodup) : xs.reverse.Nodup := List.pairwise_reverse.mpr (h.imp fun h => h.symm)
theorem rev_keys (kvs : List (Int × List Int)) : (kvs.reverse.map (·.1)) = (kvs.map (·.1)).reverse := List.map_reverse
theorem srtB_rev {kvs : List (Int × List Int)} (hnd : (kvs.map (·.1)).Nodup) : srtB kvs.reverse = srtB kvs := by
  have e1 : srtK kvs.reverse = srtK kvs := by
    unfold srtK
    rw [rev_keys]
    exact sort_perm (List.reverse_perm _)
  unfold srtB
  rw [e1]
  refine List.map_congr_left fun k hk => ?_
  have h1 := (getI_in (srtK_mem.mp hk)).1
  have hnd2 : (kvs.reverse.map (·.1)).Nodup := by rw [rev_keys]; exact nodup_rev hnd
  rw [getI_uniq hnd2 (List.mem_reverse.mpr h1)]
theorem okBr_rev {kvs : List (Int × List Int)} (h : okBr kvs) : okBr kvs.reverse := ⟨by rw [List.length_reverse]; exact h.1, by rw [rev_keys]; exact nodup_rev h.2.1, fun p hp => h.2.2 p (List.mem_reverse.mp hp)⟩
theorem brK_inj {a b : List (Int × List Int)} (h : brK a = brK b) : a = b := by
  have := congrArg intsK h
  rwa [intsK_br, intsK_br] at this
theorem pre_fb {kvs : List (Int × List Int)} (h : okBr kvs) : (BrI.dct (brK kvs)).ok ∧ ((BrI.dct (brK kvs)).ref = none → okBr (BrI.dct (brK kvs)).ints) := ⟨fun p hp => by
  obtain ⟨q, _, rfl⟩ := List.mem_map.mp hp
  exact pln2_nums q.2, fun _ => by
  show okBr (intsK (brK kvs))
  rw [intsK_br]; exact h⟩
theorem fbO_br {kvs : List (Int × List Int)} (h : okBr kvs) : fbO (.dct (brK kvs)) = .ret (.st (dS (briT (srtB kvs)))) := by
  have e : refB (brK kvs) = none := by
    unfold refB
    rw [if_neg (by unfold brK; rw [List.length_map]; have := h.1; omega)]
    exact badP_none fun p hp => by
      obtain ⟨q, hq, rfl⟩ := List.mem_map.mp hp
      exact ⟨rfl, broB_nums (h.2.2 q hq).2.1⟩
  unfold fbO
  rw [show (BrI.dct (brK kvs)).ref = none from e]
  show Out.ret (.st (dS (briT (srtB (intsK (brK kvs)))))) = _
  rw [intsK_br]
theorem dD_rev (kvs : List (Int × List Int)) : (pairD (brK kvs)).reverse = pairD (brK kvs.reverse) := by rw [prI_D, prI_D]; unfold prI; rw [List.map_reverse]
theorem brK_nd {kvs : List (Int × List Int)} (h : (kvs.map (·.1)).Nodup) : ((brK kvs).map (·.1)).Nodup := by
  rw [keysBr]
  exact List.pairwise_map.mpr (h.imp fun h z => h (Sum.inl.inj z))
theorem brL_nd {kvs : List (Int × List Int)} (h : (kvs.map (·.1)).Nodup) : ((brL kvs).map (·.1)).Nodup := by
  have e : (brL kvs).map (·.1) = (brK kvs).map (·.1) := by unfold brL brK; rw [List.map_map, List.map_map]; rfl
  rw [e]; exact brK_nd h
theorem asc_nodup {kvs : List (Int × List Int)} (h : AscK kvs) : (kvs.map (·.1)).Nodup := h.imp fun h => by omega
def fDue (kvs : List (Int × List Int)) : PyData → Option PyData
  | .int k => some (.tuple [.int k, .list (nums (getI kvs k))])
  | _ => none
theorem fDue_all (kvs : List (Int × List Int)) : ∀ ks : List Int, (nums ks).filterMap (fDue kvs) = prI (ks.map fun k => (k, getI kvs k))
  | [] => rfl
  | x :: r => by
    have ih := fDue_all kvs r
    show PyData.tuple [.int x, .list (nums (getI kvs x))] :: (nums r).filterMap (fDue kvs) = _
    rw [ih]; rfl
def fIs (k : Int) : PyData → Option PyData
  | .int x => if x = k then some (.int x) else none
  | _ => none
theorem fIs_one {k : Int} : ∀ {ks : List Int}, ks.Nodup → k ∈ ks → (nums ks).filterMap (fIs k) = [.int k]
  | x :: r, nd, h => by
    obtain ⟨n1, n2⟩ := List.nodup_cons.mp nd
    have hn : ∀ {r : List Int}, k ∉ r → (nums r).filterMap (fIs k) = [] := by
      intro r
      induction r with
      | nil => exact fun _ => rfl
      | cons y r ih =>
        intro h
        have hy : ¬ y = k := fun e => h (by rw [e]; exact List.mem_cons_self)
        show List.filterMap (fIs k) (.int y :: nums r) = []
        rw [List.filterMap_cons_none (show fIs k (.int y) = none from if_neg hy)]
        exact ih fun m => h (List.mem_cons_of_mem _ m)
    show List.filterMap (fIs k) (.int x :: nums r) = _
    by_cases e : x = k
    · subst e
      rw [List.filterMap_cons_some (show fIs x (.int x) = some (.int x) from if_pos rfl), hn n1]
    · rw [List.filterMap_cons_none (show fIs k (.int x) = none from if_neg e)]
      exact fIs_one n2 ((List.mem_cons.mp h).resolve_left fun z => e z.symm)
theorem inD_no (xs : List Int) : inD .none (nums xs) = false := by
  have := inD_opt (xs.map strI)
  rw [numsF_some (numsF_str xs), numsF_str] at this
  exact this
theorem inD_snoc (xs : List Int) : inD .none (nums xs ++ [.none]) = true := by
  induction xs with
  | nil => rfl
  | cons x r ih => exact ih
theorem flat_all (xs : List Int) : (nums xs).all flatD = true := List.all_eq_true.mpr fun d hd => by obtain ⟨v, _, rfl⟩ := nums_mem hd; rfl
theorem brL_at {kvs : List (Int × List Int)} {i : Nat} {p : Int × List Int} (h : kvs[i]? = some p) : (brL kvs)[i]? = some (.inl p.1, nums p.2) := by unfold brL; rw [List.getElem?_map, h]; rfl
theorem keyT_nums (kvs : List (Int × List Int)) : (brT kvs).map (fun q => keyD q.1) = nums (kvs.map (·.1)) := by unfold brT nums; rw [List.map_map, List.map_map]; rfl
theorem keyL_nums (tl : List (Key × List PyData)) (kvs : List (Int × List Int)) (h : tl.map (·.1) = (brL kvs).map (·.1)) : (lsT tl).map (fun q => keyD q.1) = nums (kvs.map (·.1)) := by
  have e : (lsT tl).map (fun q => keyD q.1) = (tl.map (·.1)).map keyD := by unfold lsT; rw [List.map_map, List.map_map]; rfl
  rw [e, h]
  unfold brL nums
  rw [List.map_map, List.map_map, List.map_map]; rfl
theorem set_keys {tl : List (Key × List PyData)} {i : Nat} {k : Key} {ds es : List PyData} (h : tl[i]? = some (k, ds)) : (tl.set i (k, es)).map (·.1) = tl.map (·.1) := by
  rw [List.map_set]
  obtain ⟨hi, e⟩ := List.getElem?_eq_some_iff.mp h
  have : (tl.map (·.1))[i]'(by rw [List.length_map]; exact hi) = k := by rw [List.getElem_map, e]
  rw [← this, List.set_getElem_self]
abbrev s_law_brings_right : Stmt := top 30
theorem sc_law_brings_right : FnScope ["_law_draws_here", "_law_a_brings", "_law_kept_here", "_law_lines", "_law_key", "_law_a_text", "_law_told", "_law_named", "_law_due", "_law_some", "_law_value_here", "_law_one"] ["_law_draws_here"] (defScope s_law_brings_right) := ⟨rfl, rfl, rfl, by decide +kernel, rfl, by decide +kernel, by decide +kernel⟩
def sp_law_brings_right : Rel := Chg (α := Dr) (fun s => s.ok 800000000) (fun s => [.io 0 s.ow]) (fun s => .st (.bool true)) (fun s => [.io 0 (brAll false s).2.ow])
abbrev D_law_brings_right (P : Program) (w : World) (K : PySem.W.Frag) (mg : Str → Option Value) (base : Heap) : Prop := DefOk P w K mg base "_law_brings_right" s_law_brings_right ["_law_draws_here"] 5 (Prm K mg sp_law_brings_right)
set_option linter.unusedVariables false in
theorem b_law_brings_right {P : Program} {w : World} {K : PySem.W.Frag} {mg : Str → Option Value} {base : Heap} (A : At K mg "_law_brings_right" s_law_brings_right ["_law_draws_here"]) (T : Free K mg) (d_law_brings : D_law_brings P w K mg base) (d_format_brings : D_format_brings P w K mg base) (d_parse_brings : D_parse_brings P w K mg base) : D_law_brings_right P w K mg base := by
  obtain ⟨f, fd, hm, F, hb⟩ := A
  refine ⟨f, fd, hm, F, hb, chg_fn F sc_law_brings_right (fun a => rfl) (fun a => .io .nil) (fun a => rfl) fun E B a ha => ?_⟩
  have nd : (["_law_draws_here", "_law_a_brings", "_law_kept_here", "_law_lines", "_law_key", "_law_a_text", "_law_told", "_law_named", "_law_due", "_law_some", "_law_value_here", "_law_one"] : List Str).Nodup := sc_law_brings_right.nd
  have hs : a.ok 800000000 := ha
  have hb := brAll_br false a _ hs
  refine go_set 1 (ev_callX 0 (brAll false a).2.ow (false, a) d_law_brings (av_cons (ev_at 0) (av_cons ev_bl av_nil)) (.here (.st .nil)) hs.up (hio_cons rfl)) ?_
  show GO _ _ _ [.io 0 (brAll false a).2.ow, .val (dD (brK (brAll false a).1)), .no, .no, .no, .no, .no, .no, .no, .no, .no, .no] (toRt _ [.io 0 (brAll false a).2.ow])
  generalize brAll false a = BR at hb ⊢
  obtain ⟨kvs, s⟩ := BR
  have hb : okBr kvs := hb
  have hb1 := hb.1
  have sP : (srtK kvs).Perm (kvs.map (·.1)) := (sort_ok _).1
  have sA : (srtK kvs).Pairwise (· ≤ ·) := (sort_ok _).2
  have rk := rk_brK hb
  have hsz : ∀ k ∈ srtK kvs, smP (k, getI kvs k) := fun k hk => hb.2.2 _ (getI_in (srtK_mem.mp hk)).1
  refine go_set 2 (ev_reprD (ev_val (d := dD (brK kvs)) 1) T.repr (rk.mono (by decide) (Nat.le_refl _))) ?_
  refine go_set 3 (ev_lst av_nil .nil) ?_
  refine go_cons (M := fun sl => ∃ x4, sl = [.io 0 s.ow, .val (dD (brK kvs)), .val (.str (dD (brK kvs)).shown), .own (.lst (dSs ((srtB kvs).map linT))), x4, .no, .no, .no, .no, .no, .no, .no]) (g1_for (ds := nums (srtK kvs)) (ei_list (EV.fz (ev_sortedD (ns := kvs.map (·.1)) (ev_val (d := dD (brK kvs)) 1) T.sorted .st (keysBr kvs) (by rw [List.length_map]; omega) sP sA))) (fun i sl => ∃ x4, sl = [.io 0 s.ow, .val (dD (brK kvs)), .val (.str (dD (brK kvs)).shown), .own (.lst (dSs (((srtB kvs).take i).map linT))), x4, .no, .no, .no, .no, .no, .no, .no]) ⟨_, rfl⟩ (fun i d sl hd h => ?_) fun sl h => ?_) fun sl h => ?_
  · obtain ⟨x4, rfl⟩ := h
    obtain ⟨k, hk0, rfl⟩ := nums_get hd
    have hk := List.mem_of_getElem? hk0
    have hp := hsz k hk
    have hvl : (getI kvs k).length ≤ 12 := hp.2.1
    have hil : i < (srtK kvs).length := (List.getElem?_eq_some_iff.mp hk0).1
    rw [srtK_len] at hil
    refine ⟨_, _, gt_name 4, ?_⟩
    have ek : (srtB kvs).take (i + 1) = (srtB kvs).take i ++ [(k, getI kvs k)] := take_succ (by unfold srtB; rw [List.getElem?_map, hk0]; rfl)
    refine go_append (ds := dSs (((srtB kvs).take i).map linT)) (d := dS (linT (k, getI kvs k))) 3 (EV.to (ev_join (ls := (strI k ++ [58]) :: (getI kvs k).map strI) (ev_strT (x := [32])) (EV.to (ev_cat (ds := [dS (strI k ++ [58])]) (ds' := dSs ((getI kvs k).map strI)) (ev_lst (av_cons (ev_addT (ev_strI (ev_val (d := .int k) 4) T.str (sm_big hp.1)) (ev_strT (x := [58])) (by have := strI_sm hp.1; show (strI k).length + 1 ≤ _; have h : (strI k).length ≤ 21 := this; omega)) av_nil) (.cons .nil)) (EV.to (ev_comp [("_law_value_here", 10)] fStr (ei_list (ds := nums (getI kvs k)) (ev_dix (k := .inl k) (ev_val (d := dD (brK kvs)) 1) (ev_val (d := .int k) 4) .st (getI_in (srtK_mem.mp hk)).2)) (fun j v hv => ?_) (by rw [len_nums]; omega)) (k' := .fr (.lst (dSs ((getI kvs k).map strI)))) (by rw [fStr_nums])) (hz := by rw [len_dSs, List.length_map]; show 1 + _ ≤ _; omega)) (k' := .fr (.lst (dSs ((strI k ++ [58]) :: (getI kvs k).map strI)))) rfl) .fr (join_bd (N := 22) (m := 13) (by rw [List.length_cons, List.length_map]; omega) (lin_parts hp) (by decide))) rfl) ?_ (hl := by rw [len_dSs, List.length_map, List.length_take]; omega)
    · obtain ⟨y, hy, rfl⟩ := nums_get hv
      exact ⟨_, _, true, gt_name 10, by decide, tvs_nil, fun _ => ⟨_, rfl, ev_strI (ev_val (d := .int y) 10) T.str (sm_big (hp.2.2 y (List.mem_of_getElem? hy)))⟩, fun h => nomatch h⟩
    · refine go_nil ⟨.val (.int k), ?_⟩
      rw [ek, List.map_append, ← dSs_app]; rfl
  · obtain ⟨x4, rfl⟩ := h
    refine ⟨x4, ?_⟩
    have : (nums (srtK kvs)).length = (srtB kvs).length := by rw [len_nums, srtK_len, srtB_len]
    rw [this, List.take_length]
  obtain ⟨x4, rfl⟩ := h
  have hts := srtB_sm hb.2.2
  have hta := srtB_asc hb.2.1
  have htl := srtB_len kvs
  have tz := briT_sz (kvs := srtB kvs) (by omega) hts
  have ct := ce_twoT (briT_sg (srtB kvs))
  refine go_set 5 (EV.to (ev_join (ls := (srtB kvs).map linT) (ev_strT (x := [10])) (ev_own 3) .ls (join_bd (N := 299) (m := 12) (by rw [List.length_map]; omega) (map_lin hts) (by decide))) (k' := .st (dS (briT (srtB kvs)))) rfl) ?_
  have pf := pre_fb hb
  have of := fbO_br hb
  refine go_skip (tv_or (CM.tv (cm_neD (d1 := .list [dS (briT (srtB kvs)), dS (briT (srtB kvs))]) (d2 := .list [dS (briT (srtB kvs)), dS (briT (srtB kvs))]) (ev_lst (av_cons (ev_callO (BrI.dct (brK kvs)) d_format_brings (av_cons (ev_val (d := dD (brK kvs)) 1) av_nil) (.st .nil) pf (k := .st (dS (briT (srtB kvs)))) of) (av_cons (ev_callKkO (BrI.dct (brK kvs)) d_format_brings.toK kw_fb (kv_cons (ev_val (d := dD (brK kvs)) 1) kv_nil) (.st .nil) pf (k := .st (dS (briT (srtB kvs)))) of) av_nil)) (.cons (.cons .nil))) (ev_lst (av_cons (ev_val 5) (av_cons (ev_val 5) av_nil)) (.cons (.cons .nil))) .fr .fr (ct.can (by decide)) (ct.can (by decide)))) fun _ => CM.tv (cm_neS (ev_reprD (ev_val (d := dD (brK kvs)) 1) T.repr (rk.mono (by decide) (Nat.le_refl _))) (ev_val 2))) (by rw [ct.self]; simp) ?_
  refine go_leave (CM.tv (cm_gt (ev_lenT (ev_val 5) T.len (by omega)) ev_int)) (fun _ => go_ret ev_bl ⟨rfl, ioin_cons rfl rfl⟩) fun _ => ?_
  have pp : (srtB kvs).length ≤ 12 ∧ AscK (srtB kvs) ∧ ∀ p ∈ srtB kvs, smP p := ⟨by omega, hta, hts⟩
  refine go_unpG2 (t1 := .dct (brT (srtB kvs))) (t2 := .dct (brT (srtB kvs))) 6 7 (evg_tup (avg_cons (evg_p (evp_callP (srtB kvs) d_parse_brings (av_cons (ev_val 5) av_nil) (.st .nil) pp)) (avg_cons (evg_p (evp_callPk (srtB kvs) d_parse_brings kw_pb (kv_cons (ev_val 5) kv_nil) (.st .nil) pp)) avg_nil))) (hw := sw_cell2 (.inl rfl)) fun f1 f2 => ?_
  have rp := rk_prI (kvs := srtB kvs) (by omega) hts
  refine go_set 8 (EV.to (ev_repr (d := .list (prI (srtB kvs))) (EV.to (ev_comp [("_law_key", 4)] (fDue kvs) (ei_ls (ds := nums (srtK kvs)) (ev_sortedD (ns := kvs.map (·.1)) (ev_val (d := dD (brK kvs)) 1) T.sorted .st (keysBr kvs) (by rw [List.length_map]; omega) sP sA)) (fun i d hd => ?_) (by rw [len_nums, srtK_len]; omega)) (k' := .fr (.lst (prI (srtB kvs)))) (by rw [fDue_all]; rfl)) T.repr (rp.mono (by decide) (Nat.le_refl _))) rfl) ?_
  · obtain ⟨k, hk0, rfl⟩ := nums_get hd
    have hk := List.mem_of_getElem? hk0
    exact ⟨_, _, true, gt_name 4, by decide, tvs_nil, fun _ => ⟨_, rfl, ev_tup (av_cons (ev_val (d := .int k) 4) (av_cons (ev_dix (k := .inl k) (ev_val (d := dD (brK kvs)) 1) (ev_val (d := .int k) 4) .st (getI_in (srtK_mem.mp hk)).2) av_nil)) (.cons (.cons .nil))⟩, fun h => nomatch h⟩
  refine go_skip (tv_or (CM.tv (cm_neS (ev_repr (d := .list (prI (srtB kvs))) (EV.to (ev_listItS (ts := brT (srtB kvs)) 6 T.list) (by rw [prI_T])) T.repr (rp.mono (by decide) (Nat.le_refl _))) (ev_val 8))) fun _ => CM.tv (cm_neS (ev_repr (d := .list (prI (srtB kvs))) (EV.to (ev_listItS (ts := brT (srtB kvs)) 7 T.list) (by rw [prI_T])) T.repr (rp.mono (by decide) (Nat.le_refl _))) (ev_val 8))) (by simp) ?_
  refine go_lkP (ts := brT (srtB kvs)) 6 fun fp => ?_
  rw [← brL_T (srtB kvs)]
  have hnd := brL_nd (asc_nodup hta)
  have hndk := asc_nodup hta
  refine go_cons (M := fun sl => ∃ x4 x9, sl = [.io 0 s.ow, .val (dD (brK kvs)), .val (.str (dD (brK kvs)).shown), .own (.lst (dSs ((srtB kvs).map linT))), x4, .val (dS (briT (srtB kvs))), .prv (.dcs (lsT (brL (srtB kvs)))) fp, .prv (.dct (lsT (brL (srtB kvs)))) f2, .val (.str (PyData.list (prI (srtB kvs))).shown), x9, .no, .no]) (g1_for (ei_keysS (ts := lsT (brL (srtB kvs))) 6) (fun i sl => ∃ x4 x9, sl = [.io 0 s.ow, .val (dD (brK kvs)), .val (.str (dD (brK kvs)).shown), .own (.lst (dSs ((srtB kvs).map linT))), x4, .val (dS (briT (srtB kvs))), .prv (.dcs (lsT (brL (srtB kvs)))) fp, .prv (.dct (lsT (brL (srtB kvs)))) f2, .val (.str (PyData.list (prI (srtB kvs))).shown), x9, .no, .no]) ⟨_, _, rfl⟩ (fun i d sl hd h => ?_) fun sl h => h) fun sl h => ?_
  · obtain ⟨x4, x9, rfl⟩ := h
    rw [keyL_nums _ (srtB kvs) rfl] at hd
    obtain ⟨k, hk0, rfl⟩ := nums_get hd
    rw [List.getElem?_map] at hk0
    obtain ⟨p, hp, rfl⟩ := Option.map_eq_some_iff.mp hk0
    have hpm := hts p (List.mem_of_getElem? hp)
    have hat := brL_at hp
    have hil : i < (brL (srtB kvs)).length := (List.getElem?_eq_some_iff.mp hat).1
    refine ⟨_, _, gt_name 4, ?_⟩
    refine go_alias (k := .inl p.1) (ds := nums p.2) (tl := brL (srtB kvs)) 6 9 i (ev_val (d := .int p.1) 4) hat hnd fun l hl => ?_
    refine go_appRaw (k := .inl p.1) (ds := nums p.2) (d := .none) (tl := brL (srtB kvs)) 6 9 i ev_non hat hl ?_ (by rw [len_nums]; have := hpm.2.1; omega)
    have hkeys : ((brL (srtB kvs)).set i (.inl p.1, nums p.2 ++ [.none])).map (·.1) = (brL (srtB kvs)).map (·.1) := set_keys hat
    have hnd2 : (((brL (srtB kvs)).set i (.inl p.1, nums p.2 ++ [.none])).map (·.1)).Nodup := by rw [hkeys]; exact hnd
    refine go_skip (tv_or (CM.tv (cm_neI (EV.to (ev_len (EV.to (ev_comp [("_law_one", 11)] (fIs p.1) (ei_keysS (ts := lsT ((brL (srtB kvs)).set i (.inl p.1, nums p.2 ++ [.none]))) 6) (fun j d hd => ?_) (by rw [keyL_nums _ (srtB kvs) hkeys, len_nums, List.length_map]; omega)) (k' := .fr (.lst [.int p.1])) (by rw [keyL_nums _ (srtB kvs) hkeys, fIs_one hndk (List.mem_map.mpr ⟨p, List.mem_of_getElem? hp, rfl⟩)])) T.len) (k' := .st (.int 1)) rfl) ev_int)) fun _ => CM.tv (cm_neS (ev_repr (d := .list (prI (srtB kvs))) (EV.to (ev_listIt (kvs := brK (srtB kvs)) (EV.to (EVP.fz (evp_callP (srtB kvs) d_parse_brings (av_cons (ev_val 5) av_nil) (.st .nil) pp)) (by rw [brT_d])) T.list) (k' := .fr (.lst (prI (srtB kvs)))) (by rw [prI_D])) T.repr (rp.mono (by decide) (Nat.le_refl _))) (ev_val 8))) (by simp) ?_
    · rw [keyL_nums _ (srtB kvs) hkeys] at hd
      obtain ⟨k, hk1, rfl⟩ := nums_get hd
      rw [List.getElem?_map] at hk1
      obtain ⟨q, hq, rfl⟩ := Option.map_eq_some_iff.mp hk1
      by_cases ej : j = i
      · subst ej
        rw [hp] at hq
        cases hq
        refine ⟨_, _, true, gt_name 11, by decide, tvs_one (tv_to (CM.tv (cm_in (ds := nums p.2 ++ [.none]) ev_non (ev_dixS (k := .inl p.1) (tl := (brL (srtB kvs)).set j (.inl p.1, nums p.2 ++ [.none])) 6 j (ev_val (d := .int p.1) 11) (by rw [List.getElem?_set_self hil]) hnd2) rfl (by rw [List.all_append, flat_all]; rfl))) (inD_snoc p.2)), fun _ => ⟨.int p.1, if_pos rfl, ev_val (d := .int p.1) 11⟩, fun h => nomatch h⟩
      · have hne : ¬ q.1 = p.1 := fun e => by
          rcases Nat.lt_or_gt_of_ne ej with z | z
          · have := asc_lt hta hq hp z; omega
          · have := asc_lt hta hp hq z; omega
        refine ⟨_, _, false, gt_name 11, by decide, tvs_one (tv_to (CM.tv (cm_in (ds := nums q.2) ev_non (ev_dixS (k := .inl q.1) (tl := (brL (srtB kvs)).set i (.inl p.1, nums p.2 ++ [.none])) 6 j (ev_val (d := .int q.1) 11) (by rw [List.getElem?_set_ne (Ne.symm ej)]; exact brL_at hq) hnd2) rfl (flat_all q.2))) (inD_no q.2)), fun h => (nomatch h), fun _ => if_neg hne⟩
    refine go_popRaw (k := .inl p.1) (ds := nums p.2) (d := .none) (tl := (brL (srtB kvs)).set i (.inl p.1, nums p.2 ++ [.none])) 6 9 i (by rw [List.getElem?_set_self hil]) hl ?_
    have er : ((brL (srtB kvs)).set i (.inl p.1, nums p.2 ++ [.none])).set i (.inl p.1, nums p.2) = brL (srtB kvs) := by
      rw [List.set_set]
      obtain ⟨h1, h2⟩ := List.getElem?_eq_some_iff.mp hat
      rw [← h2, List.set_getElem_self]
    rw [er]
    exact go_nil ⟨.val (.int p.1), .raw (.ref l), rfl⟩
  obtain ⟨x4', x9, rfl⟩ := h
  have hr := okBr_rev hb
  have tk := tok_dS (briT_sg (srtB kvs))
  refine go_ret (EV.to (CM.ev (cm_eqT (ev_callO (BrI.dct (brK kvs.reverse)) d_format_brings (av_cons (EV.fzD (EV.to (ev_dictP (kvs := brK kvs.reverse) (EV.to (ev_rev (ev_listIt (kvs := brK kvs) (ev_val (d := dD (brK kvs)) 1) T.list)) (k' := .fr (.lst (pairD (brK kvs.reverse)))) (by rw [dD_rev])) T.dict .fr) (k' := .fr (.dct (brK kvs.reverse))) (by rw [mergeD_nd (brK_nd hr.2.1)]))) av_nil) (.st .nil) (pre_fb hr) (k := .st (dS (briT (srtB kvs)))) (by rw [← srtB_rev hb.2.1]; exact fbO_br hr)) (ev_val 5))) (by simp)) ⟨rfl, ioin_cons rfl rfl⟩
-- CUT
def refD (w : Str) (d : PyData) : PyData := .list [.str w, d]
/-- what may be shown of a refused thing -/
def okW (d : PyData) : Prop := Rk 3 2000 d
theorem rk_word {w : Str} (h : w = "brings" ∨ w = "values") : Rk 0 101 (.str w) := by
  rcases h with rfl | rfl
  · exact ⟨by decide +kernel, by decide +kernel, Nat.zero_le _, by decide +kernel⟩
  · exact ⟨by decide +kernel, by decide +kernel, Nat.zero_le _, by decide +kernel⟩
theorem rk_ref {w : Str} {d : PyData} (hw : w = "brings" ∨ w = "values") (h : okW d) : Rk 50 10000 (refD w d) :=
  (Rk.listN (b := 3) (n := 2000) (m := 2) (fun e he => by
    rcases List.mem_cons.mp he with rfl | he
    · exact (rk_word hw).mono (by decide) (by decide)
    · rw [List.mem_singleton.mp he]; exact h) (by simp)).mono (by decide) (by decide)
abbrev s_law_kept : Stmt := top 31
theorem sc_law_kept : FnScope ["_law_ask", "_law_error", "caught"] ["_law_ask"] (defScope s_law_kept) := ⟨rfl, rfl, rfl, by decide +kernel, rfl, by decide +kernel, by decide +kernel⟩
def pre_law_kept : Out → Prop := fun u => ∃ d, (u = .exn (xB d) ∨ u = .exn (xV d)) ∧ okW d
def res_law_kept : Out → PyData := fun u => match u with | .exn ⟨_, some (f, d)⟩ => .str (refD (if f = "key" then "brings" else "values") d).shown | _ => .none
abbrev L_law_kept (P : Program) (w : World) (K : PySem.W.Frag) (mg : Str → Option Value) (base : Heap) : Prop := Tell P w K mg base "_law_kept" s_law_kept "_law_ask" 4 pre_law_kept res_law_kept
set_option linter.unusedVariables false in
theorem b_law_kept {P : Program} {w : World} {K : PySem.W.Frag} {mg : Str → Option Value} {base : Heap} (A : At K mg "_law_kept" s_law_kept ["_law_ask"]) (T : Free K mg)  : L_law_kept P w K mg base := by
  obtain ⟨f, fd, hm, F, hb⟩ := A
  refine tell_of hm F hb sc_law_kept rfl (by first | exact .inl rfl | exact .inr (.inl rfl)) fun B X0 g u hu G => ?_
  have nd : (["_law_ask", "_law_error", "caught"] : List Str).Nodup := sc_law_kept.nd
  obtain ⟨C_N, C_P, tN, tP, hNP, hPN, hne⟩ := T.cl
  obtain ⟨d, hu, hd⟩ := hu
  refine go_set 1 ev_non ?_
  rcases hu with rfl | rfl
  · refine go_to (sl1 := [.raw (.ref g), .val (excD C_N (some ("key", d))), .no]) (g1_try 2 1 xt_tup2 (catch2 tN tP hNP hPN) fun W => go_exprX (xv_ask (G.w W)) ⟨by simp [xB], rfl, rfl, fun C hC => ?_⟩) ?_
    · have e2 := tN.x.gC.symm.trans hC
      cases e2
      rfl
    refine go_skip (tv_or (cm_isN (ev_val 1)).tv fun _ => tv_not (tv_val (ev_isXT tN.i (ev_val 1) T.ValueError tN.kit_val T.isinstance))) (by rfl) ?_
    exact go_ret (ev_if (t := true) (tv_val (ev_isXC tN.i (ev_val 1) tN.x.gC tN.kit_self T.isinstance)) (fun _ => ev_repr (ev_lst (av_cons ev_str (av_cons (ev_xget tN.g (ev_val 1)) av_nil)) (.cons (.cons .nil))) T.repr (rk_ref (w := "brings") (by simp) hd)) fun h => nomatch h) rfl
  · refine go_to (sl1 := [.raw (.ref g), .val (excD C_P (some ("index", d))), .no]) (g1_try 2 1 xt_tup2 (catch2 tN tP hNP hPN) fun W => go_exprX (xv_ask (G.w W)) ⟨by simp [xV], rfl, rfl, fun C hC => ?_⟩) ?_
    · have e2 := tP.x.gC.symm.trans hC
      cases e2
      rfl
    refine go_skip (tv_or (cm_isN (ev_val 1)).tv fun _ => tv_not (tv_val (ev_isXT tP.i (ev_val 1) T.ValueError tP.kit_val T.isinstance))) (by rfl) ?_
    exact go_ret (ev_if (t := false) (tv_val (ev_isXC tP.i (ev_val 1) tN.x.gC (tN.kit_no hPN (Ne.symm hne)) T.isinstance)) (fun h => nomatch h) fun _ => ev_repr (ev_lst (av_cons ev_str (av_cons (ev_xget tP.g (ev_val 1)) av_nil)) (.cons (.cons .nil))) T.repr (rk_ref (w := "values") (by simp) hd)) rfl
/-! ### things that are refused -/
def z121 : List Int := List.replicate 121 0
def z13 : List Int := List.replicate 13 0
def sOne : Str := tx [49]
def sX : Str := tx [120]
def badsV : List (PyData × PyData) := [(.none, .none), (.tuple [.int 1], .none), (.str sOne, .none), (.list [.int 1, .bool true], .int 1), (.list [.str sOne, .none], .int 0), (.list (nums z121), .none)]
def kvs13 : List (Key × PyData) := (List.range 13).map fun (n : Nat) => (.inl ((0 : Int) + (n : Int)), .list [])
def oddA : List (BrI × PyData) := [(.dct kvs13, .none), (.dct [(.inl 1, .list (nums z13))], .int 1), (.bk, .bool true)]
def oddB : List (BrI × PyData) := [(.oth .none, .none), (.oth (.list []), .none), (.dct [(.inr sOne, .list [])], .str sOne), (.dct [(.inl 1, .list []), (.inl 2, .tuple [.int 1])], .int 2), (.dct [(.inl 5, .list [.bool true]), (.inr sX, .list [])], .int 5)]
def tupV (l : List (PyData × PyData)) : List PyData := l.map fun q => .tuple [q.1, q.2]
def tupB (l : List (BrI × PyData)) : List PyData := l.map fun q => .tuple [q.1.d, q.2]
theorem okW_none : okW .none := Rk.none.mono (by decide) (by decide)
theorem okW_int {i : Int} (h : i.natAbs < 2 ^ 100) : okW (.int i) := (Rk.int h).mono (by decide) (by decide)
theorem okW_bool {b : Bool} : okW (.bool b) := Rk.bool.mono (by decide) (by decide)
theorem okW_one : okW (.str sOne) := ⟨by decide +kernel, by decide +kernel, Nat.zero_le _, by decide +kernel⟩
theorem pln2_all {ds : List PyData} (h : ds.all plnD = true) : pln2 (.list ds) = true := by
  show (true && ds.all plnD) = true
  rw [h]; rfl
theorem badsV_ok : ∀ q ∈ badsV, pln2 q.1 = true ∧ refV q.1 = some (xV q.2) ∧ okW q.2 := fun q hq => by
  simp only [badsV, List.mem_cons, List.not_mem_nil, or_false] at hq
  rcases hq with rfl | rfl | rfl | rfl | rfl | rfl
  · exact ⟨rfl, rfl, okW_none⟩
  · exact ⟨rfl, rfl, okW_none⟩
  · exact ⟨rfl, rfl, okW_none⟩
  · exact ⟨rfl, rfl, okW_int (by decide)⟩
  · exact ⟨rfl, rfl, okW_int (by decide)⟩
  · refine ⟨pln2_nums _, ?_, okW_none⟩
    show refV (.list (nums z121)) = _
    rw [refV_l, if_pos (by rw [len_nums]; decide)]
theorem badsV_out {q : PyData × PyData} (h : refV q.1 = some (xV q.2)) : fvO q.1 = .exn (xV q.2) := by unfold fvO; rw [h]
theorem odd_ok : ∀ q ∈ oddA ++ oddB, q.1.ok ∧ q.1.ref = some (xB q.2) ∧ okW q.2 := fun q hq => by
  simp only [oddA, oddB, List.cons_append, List.nil_append, List.mem_cons, List.not_mem_nil, or_false] at hq
  rcases hq with rfl | rfl | rfl | rfl | rfl | rfl | rfl | rfl
  · refine ⟨fun p hp => ?_, rfl, okW_none⟩
    obtain ⟨n, _, rfl⟩ := List.mem_map.mp hp
    rfl
  · refine ⟨fun p hp => ?_, rfl, okW_int (by decide)⟩
    rw [List.mem_singleton.mp hp]; exact pln2_nums _
  · exact ⟨trivial, rfl, okW_bool⟩
  · exact ⟨⟨rfl, rfl⟩, rfl, okW_none⟩
  · exact ⟨⟨rfl, rfl⟩, rfl, okW_none⟩
  · refine ⟨fun p hp => ?_, rfl, okW_one⟩
    rw [List.mem_singleton.mp hp]; rfl
  · refine ⟨fun p hp => ?_, rfl, okW_int (by decide)⟩
    rcases List.mem_cons.mp hp with rfl | hp
    · rfl
    · rw [List.mem_singleton.mp hp]; rfl
  · refine ⟨fun p hp => ?_, rfl, okW_int (by decide)⟩
    rcases List.mem_cons.mp hp with rfl | hp
    · rfl
    · rw [List.mem_singleton.mp hp]; rfl
theorem odd_out {q : BrI × PyData} (h : q.1.ref = some (xB q.2)) : fbO q.1 = .exn (xB q.2) := by unfold fbO; rw [h]
def f13 : PyData → Option PyData
  | .int x => some (.tuple [.int x, .list []])
  | _ => none
theorem f13_all : (upI 0 13).filterMap f13 = pairD kvs13 := by
  unfold upI kvs13 pairD
  rw [fm_of (f := f13) (h := fun (n : Nat) => PyData.tuple [.int ((0 : Int) + (n : Int)), .list []]) (fun x => rfl), List.map_map]; rfl
theorem rep_0 (n : Nat) : (List.replicate n [PyData.int 0]).flatten = nums (List.replicate n 0) := by
  unfold nums
  rw [List.map_replicate]
  induction n with
  | zero => rfl
  | succ n ih => rw [List.replicate_succ, List.flatten_cons, ih]; rfl
theorem tupV_at {l : List (PyData × PyData)} {i : Nat} {d : PyData} (h : (tupV l)[i]? = some d) : ∃ q ∈ l, d = .tuple [q.1, q.2] := by
  unfold tupV at h
  rw [List.getElem?_map] at h
  obtain ⟨q, h1, h2⟩ := Option.map_eq_some_iff.mp h
  exact ⟨q, List.mem_of_getElem? h1, h2.symm⟩
theorem tupB_at {l : List (BrI × PyData)} {i : Nat} {d : PyData} (h : (tupB l)[i]? = some d) : ∃ q ∈ l, d = .tuple [q.1.d, q.2] := by
  unfold tupB at h
  rw [List.getElem?_map] at h
  obtain ⟨q, h1, h2⟩ := Option.map_eq_some_iff.mp h
  exact ⟨q, List.mem_of_getElem? h1, h2.symm⟩
theorem ev_and4 {c : CxD} {B : Bs} {a b d e : Expr} {sl : List Sl} {pos : Pos} {t1 t2 t3 t4 : Bool} (h1 : EV c B a sl true (.st (.bool t1)) sl) (h2 : EV c B b sl true (.st (.bool t2)) sl) (h3 : EV c B d sl true (.st (.bool t3)) sl) (h4 : EV c B e sl true (.st (.bool t4)) sl) : EV c B (.BoolOp .And [a, b, d, e] pos) sl true (.st (.bool (t1 && (t2 && (t3 && t4))))) sl :=
  ev_andG h1 (fun _ => ev_andG h2 (fun _ => ev_andG h3 (fun _ => ev_one h4) (fun _ => rfl)) (fun _ => rfl)) (fun _ => rfl)
def drO : PyData → Ow
  | .int c => Dr.ow ⟨c % bigN, 0, decide ((10 : Int) ^ (18 : Int).toNat ≤ c)⟩
  | _ => .lst []
theorem dr0_ok (c : Int) : (⟨c % bigN, 0, decide ((10 : Int) ^ (18 : Int).toNat ≤ c)⟩ : Dr).ok 0 := ⟨Int.le_refl 0, Int.le_refl 0⟩
theorem drO_at {xs : List Int} {i : Nat} {o : Ow} (h : ((nums xs).map drO)[i]? = some o) : ∃ w : Dr, o = w.ow ∧ w.ok 0 := by
  rw [List.getElem?_map] at h
  obtain ⟨d, hd, rfl⟩ := Option.map_eq_some_iff.mp h
  obtain ⟨v, hv, rfl⟩ := nums_get hd
  exact ⟨_, rfl, dr0_ok v⟩
theorem draws_hz (a : List Int) (n : Nat) (h : n ≤ 100) : (nums (a.take n)).length + [PyData.int 0].length ≤ 1000000 := by
  rw [len_nums, List.length_take]; simp; omega
theorem draws_eq (a : List Int) (n : Nat) : Kd.fr (.lst (nums (a.take n) ++ [.int 0])) = .fr (.lst (nums (a.take n ++ [0]))) := by rw [← nums_app]; rfl
theorem draws_hl (a : List Int) (n : Nat) (h : n ≤ 100) : (nums (a.take n ++ [0])).length ≤ 1000000 := by
  rw [len_nums, List.length_append, List.length_take]; simp; omega
abbrev s_law : Stmt := top 32
theorem sc_law : FnScope ["_law_script", "_law_draws_here", "_law_place", "_law_odd", "_law_key", "_law_bad", "_law_cell", "_law_k"] ["_law_script"] (defScope s_law) := ⟨rfl, rfl, rfl, by decide +kernel, rfl, by decide +kernel, by decide +kernel⟩
def sp_law : Rel := Pure (α := List Int) (fun a => a.length ≤ 63) (fun a => [kL a]) (fun a => .st (.bool true))
abbrev D_law (P : Program) (w : World) (K : PySem.W.Frag) (mg : Str → Option Value) (base : Heap) : Prop := DefOk P w K mg base "law" s_law ["_law_script"] 7 (Prm K mg sp_law)
set_option linter.unusedVariables false in
theorem b_law {P : Program} {w : World} {K : PySem.W.Frag} {mg : Str → Option Value} {base : Heap} (A : AtL K mg base "law" s_law ["_law_script"]) (T : Free K mg) (d_law_draws : D_law_draws P w K mg base) (d_format_values : D_format_values P w K mg base) (d_parse_values : D_parse_values P w K mg base) (d_format_brings : D_format_brings P w K mg base) (d_parse_brings : D_parse_brings P w K mg base) (d_law_values_right : D_law_values_right P w K mg base) (d_law_brings_right : D_law_brings_right P w K mg base) (d_law_kept : L_law_kept P w K mg base) : D_law P w K mg base := by
  obtain ⟨f, fd, hm, F, hb, hTab⟩ := A
  refine ⟨f, fd, hm, F, hb, pure_fn F sc_law (fun a => rfl) (fun a => rfl) (fun a => rfl) fun E B a ha => ?_⟩
  have nd : (["_law_script", "_law_draws_here", "_law_place", "_law_odd", "_law_key", "_law_bad", "_law_cell", "_law_k"] : List Str).Nodup := sc_law.nd
  have ha : a.length ≤ 63 := ha
  refine go_cons (M := fun sl => ∃ x1, sl = [kL a, x1, .no, .no, .no, .no, .no, .no]) (g1_forN 1 (nv_comp [("_law_cell", 6)] drO (ei_ls (ds := nums (a.take 6 ++ [0])) (EV.to (ev_cat (ev_sliceToN (n := 6) (ev_val 0) ev_int) (ev_lst (av_cons ev_int av_nil) (.cons .nil)) (hz := draws_hz a 6 (by decide))) (k' := .fr (.lst (nums (a.take 6 ++ [0])))) (draws_eq a 6))) (fun j d hd => by obtain ⟨v, hv, rfl⟩ := nums_get hd; exact ⟨_, _, gt_name 6, by decide, tvs_nil, ev_callP (v : Int) d_law_draws (av_cons (ev_val 6) av_nil) (.st .nil) trivial⟩) (draws_hl a 6 (by decide))) (fun i sl => ∃ x1, sl = [kL a, x1, .no, .no, .no, .no, .no, .no]) (by first | exact ⟨_, rfl⟩ | exact ⟨_, _, rfl⟩ | exact ⟨_, _, _, rfl⟩ | exact ⟨_, _, _, _, rfl⟩ | exact ⟨_, _, _, _, _, rfl⟩ | exact ⟨_, _, _, _, _, _, rfl⟩ | exact ⟨_, _, _, _, _, _, _, rfl⟩ | exact ⟨_, _, _, _, _, _, _, _, rfl⟩ | exact ⟨_, _, _, _, _, _, _, _, _, rfl⟩ | exact ⟨_, _, _, _, _, _, _, _, _, _, rfl⟩ | exact ⟨_, _, _, _, _, _, _, _, _, _, _, rfl⟩ | exact ⟨_, _, _, _, _, _, _, _, _, _, _, _, rfl⟩ | exact ⟨_, _, _, _, _, _, _, _, _, _, _, _, _, rfl⟩) (fun B' i o sl ho h => ?_) fun s h => h) fun sl h => ?_
  · obtain ⟨e1, rfl⟩ := h
    obtain ⟨w0, rfl, h0⟩ := drO_at ho
    refine ⟨rfl, ?_⟩
    obtain ⟨-, -, h1⟩ := vAll_ok w0 _ h0
    obtain ⟨-, -, h2⟩ := vAll_ok _ _ h1
    have h3 := brAll_ok false _ _ h2
    refine go_skip (WV.tt (wv_or (tv_not (tv_val (ev_callX 1 (vAll w0).2.ow w0 d_law_values_right (av_cons (ev_at 1) av_nil) (.here .nil) h0.up (hio_cons rfl)))) (fun _ => wv_or1 (tv_not (tv_val (ev_callX 1 (vAll (vAll w0).2).2.ow (vAll w0).2 d_law_values_right (av_cons (ev_at 1) av_nil) (.here .nil) h1.up (hio_cons rfl))))) fun h => by cases h)) (by rfl) ?_
    exact go_skip (WV.tt (wv_or (tv_not (tv_val (ev_callX 1 (brAll false (vAll (vAll w0).2).2).2.ow (vAll (vAll w0).2).2 d_law_brings_right (av_cons (ev_at 1) av_nil) (.here .nil) h2.up (hio_cons rfl)))) (fun _ => wv_or1 (tv_not (tv_val (ev_callX 1 (brAll false (brAll false (vAll (vAll w0).2).2).2).2.ow (brAll false (vAll (vAll w0).2).2).2 d_law_brings_right (av_cons (ev_at 1) av_nil) (.here .nil) h3.up (hio_cons rfl))))) fun h => by cases h)) (by rfl) (go_nil ⟨_, rfl⟩)
  obtain ⟨e1, rfl⟩ := h
  refine go_cons (M := fun sl => ∃ x2 x5, sl = [kL a, e1, x2, .no, .no, x5, .no, .no]) (g1_for (ds := tupV badsV) (ei_list (EV.fz (ev_lst (av_cons (ev_tup (av_cons ev_non (av_cons ev_non av_nil)) (.cons (.cons .nil))) (av_cons (ev_tup (av_cons (ev_tup (av_cons ev_int av_nil) (.cons .nil)) (av_cons ev_non av_nil)) (.cons (.cons .nil))) (av_cons (ev_tup (av_cons (ev_strT (x := [49])) (av_cons ev_non av_nil)) (.cons (.cons .nil))) (av_cons (ev_tup (av_cons (EV.fz (ev_lst (av_cons ev_int (av_cons ev_bl av_nil)) (.cons (.cons .nil)))) (av_cons ev_int av_nil)) (.cons (.cons .nil))) (av_cons (ev_tup (av_cons (EV.fz (ev_lst (av_cons (ev_strT (x := [49])) (av_cons ev_non av_nil)) (.cons (.cons .nil)))) (av_cons ev_int av_nil)) (.cons (.cons .nil))) (av_cons (ev_tup (av_cons (EV.fz (EV.to (ev_rep (m := 121) (ev_lst (av_cons ev_int av_nil) (.cons .nil)) ev_int (by decide) (by decide)) (k' := .fr (.lst (nums z121))) (congrArg (fun l => Kd.fr (.lst l)) (rep_0 121)))) (av_cons ev_non av_nil)) (.cons (.cons .nil))) av_nil)))))) (.cons (.cons (.cons (.cons (.cons (.cons .nil))))))))) (fun i sl => ∃ x2 x5, sl = [kL a, e1, x2, .no, .no, x5, .no, .no]) ⟨_, _, rfl⟩ (fun i d sl hd h => ?_) fun sl h => h) fun sl h => ?_
  · obtain ⟨x2, x5, rfl⟩ := h
    obtain ⟨q, hq, rfl⟩ := tupV_at hd
    obtain ⟨q1, q2, q3⟩ := badsV_ok q hq
    refine ⟨_, _, gt_tup (gts_cons (gt_name 5) (gts_cons (gt_name 2) gts_nil)), ?_⟩
    exact go_skip (CM.tv (cm_neS (EV.to (ev_tell (.exn (xV q.2)) d_law_kept ⟨q.2, .inr rfl, q3⟩ (fun k h => nomatch h) hTab fun E X0 => lamB_exn (xv_call q.1 d_format_values (av_cons (ev_val 5) av_nil) (.st .nil) ⟨q1, fun h => by rw [q2] at h; cases h⟩ (badsV_out q2))) (k' := .st (.str (refD "values" q.2).shown)) rfl) (ev_repr (ev_lst (av_cons ev_str (av_cons (ev_val 2) av_nil)) (.cons (.cons .nil))) T.repr (rk_ref (w := "values") (by simp) q3)))) (by show (!decide (_ = _)) = false; rw [decide_eq_true rfl]; rfl) (go_nil ⟨_, _, rfl⟩)
  obtain ⟨x2, x5, rfl⟩ := h
  refine go_set 3 (ev_lst (ds := tupB oddA) (av_cons (ev_tup (av_cons (EV.fzD (EV.to (ev_dictP (kvs := kvs13) (EV.to (ev_comp [("_law_k", 7)] f13 (ei_range1 (n := 13) (z := true) ev_int (by decide) T.range) (fun j e he => ?_) (by decide)) (k' := .fr (.lst (pairD kvs13))) (by rw [← f13_all]; rfl)) T.dict .fr) (k' := .fr (.dct kvs13)) (by rw [mergeD_nd (by decide)]))) (av_cons ev_non av_nil)) (.cons (.cons .nil))) (av_cons (ev_tup (av_cons (EV.fzD (ev_disp (dv_cons (k := .inl 1) ev_int (EV.fz (EV.to (ev_rep (m := 13) (ev_lst (av_cons ev_int av_nil) (.cons .nil)) ev_int (by decide) (by decide)) (k' := .fr (.lst (nums z13))) (congrArg (fun l => Kd.fr (.lst l)) (rep_0 13)))) dv_nil))) (av_cons ev_int av_nil)) (.cons (.cons .nil))) (av_cons (ev_tup (av_cons (ev_dictBk (ev_lst (av_cons (ev_tup (av_cons ev_int (av_cons (EV.fz (ev_lst av_nil .nil)) av_nil)) (.cons (.cons .nil))) (av_cons (ev_tup (av_cons ev_bl (av_cons (EV.fz (ev_lst av_nil .nil)) av_nil)) (.cons (.cons .nil))) av_nil)) (.cons (.cons .nil))) T.dict) (av_cons ev_bl av_nil)) (.cons (.cons .nil))) av_nil))) (.cons (.cons (.cons .nil)))) ?_
  · obtain ⟨hj, rfl⟩ := upI_at he
    exact ⟨_, _, true, gt_name 7, by decide, tvs_nil, fun _ => ⟨_, rfl, ev_tup (av_cons (ev_val 7) (av_cons (EV.fz (ev_lst av_nil .nil)) av_nil)) (.cons (.cons .nil))⟩, fun h => nomatch h⟩
  refine go_set 3 (EV.to (ev_cat (ds := tupB oddA) (ds' := tupB oddB) (ev_own 3) (ev_lst (ds := tupB oddB) (av_cons (ev_tup (av_cons ev_non (av_cons ev_non av_nil)) (.cons (.cons .nil))) (av_cons (ev_tup (av_cons (EV.fz (ev_lst av_nil .nil)) (av_cons ev_non av_nil)) (.cons (.cons .nil))) (av_cons (ev_tup (av_cons (EV.fzD (ev_disp (dv_cons (k := .inr sOne) (ev_strT (x := [49])) (EV.fz (ev_lst av_nil .nil)) dv_nil))) (av_cons (ev_strT (x := [49])) av_nil)) (.cons (.cons .nil))) (av_cons (ev_tup (av_cons (EV.fzD (ev_disp (dv_cons (k := .inl 1) ev_int (EV.fz (ev_lst av_nil .nil)) (dv_cons (k := .inl 2) ev_int (ev_tup (av_cons ev_int av_nil) (.cons .nil)) dv_nil)))) (av_cons ev_int av_nil)) (.cons (.cons .nil))) (av_cons (ev_tup (av_cons (EV.fzD (ev_disp (dv_cons (k := .inl 5) ev_int (EV.fz (ev_lst (av_cons ev_bl av_nil) (.cons .nil))) (dv_cons (k := .inr sX) (ev_strT (x := [120])) (EV.fz (ev_lst av_nil .nil)) dv_nil)))) (av_cons ev_int av_nil)) (.cons (.cons .nil))) av_nil))))) (.cons (.cons (.cons (.cons (.cons .nil)))))) (hz := by decide)) (k' := .fr (.lst (tupB (oddA ++ oddB)))) (by unfold tupB; rw [List.map_append])) ?_
  refine go_frz 3 ?_
  refine go_cons (M := fun sl => ∃ x4 x5, sl = [kL a, e1, x2, .val (.list (tupB (oddA ++ oddB))), x4, x5, .no, .no]) (g1_for (ds := tupB (oddA ++ oddB)) (ei_list (ev_val 3)) (fun i sl => ∃ x4 x5, sl = [kL a, e1, x2, .val (.list (tupB (oddA ++ oddB))), x4, x5, .no, .no]) ⟨_, _, rfl⟩ (fun i d sl hd h => ?_) fun sl h => h) fun sl h => ?_
  · obtain ⟨x4, x5, rfl⟩ := h
    obtain ⟨q, hq, rfl⟩ := tupB_at hd
    obtain ⟨q1, q2, q3⟩ := odd_ok q hq
    refine ⟨_, _, gt_tup (gts_cons (gt_name 5) (gts_cons (gt_name 4) gts_nil)), ?_⟩
    exact go_skip (CM.tv (cm_neS (EV.to (ev_tell (.exn (xB q.2)) d_law_kept ⟨q.2, .inl rfl, q3⟩ (fun k h => nomatch h) hTab fun E X0 => lamB_exn (xv_call q.1 d_format_brings (av_cons (ev_val 5) av_nil) (.st .nil) ⟨q1, fun h => by rw [q2] at h; cases h⟩ (odd_out q2))) (k' := .st (.str (refD "brings" q.2).shown)) rfl) (ev_repr (ev_lst (av_cons ev_str (av_cons (ev_val 4) av_nil)) (.cons (.cons .nil))) T.repr (rk_ref (w := "brings") (by simp) q3)))) (by show (!decide (_ = _)) = false; rw [decide_eq_true rfl]; rfl) (go_nil ⟨_, _, rfl⟩)
  obtain ⟨x4, x5', rfl⟩ := h
  have p0 : ([] : List Int).length ≤ 120 ∧ ∀ x ∈ ([] : List Int), smI x := ⟨by decide, fun x hx => nomatch hx⟩
  have b0 : okBr [] := ⟨by decide, List.nodup_nil, fun p hp => nomatch hp⟩
  have pb0 : ([] : List (Int × List Int)).length ≤ 12 ∧ AscK [] ∧ ∀ p ∈ ([] : List (Int × List Int)), smP p := ⟨by decide, List.Pairwise.nil, fun p hp => nomatch hp⟩
  have e0 : srtB [] = [] := by unfold srtB srtK; simp
  have f0 : fbO (.dct (brK [])) = .ret (.st (dS [])) := by
    rw [fbO_br b0, e0]
    exact congrArg (fun l => Out.ret (.st (dS l))) (show briT [] = [] from rfl)
  have g0 : fvO (.list (nums [])) = .ret (.st (dS [])) := fvO_nums p0.1
  refine go_ret (EV.to (ev_and4 (t1 := true) (t2 := true) (t3 := true) (t4 := true) ?_ ?_ ?_ ?_) (k' := .st (.bool true)) rfl) rfl
  · exact EV.to (CM.ev (cm_eqN (xs := []) (ys := []) (EVP.fz (evp_callP ([] : List Int) d_parse_values (av_cons (ev_strT (x := [])) av_nil) (.st .nil) p0)) (ev_lst (ds := nums []) av_nil .nil))) (by simp)
  · exact EV.to (CM.ev (cm_eqT (ev_callO (PyData.list (nums [])) d_format_values (av_cons (EV.fz (ev_lst (ds := nums []) av_nil .nil)) av_nil) (.st .nil) (pre_fv p0.2) (k := .st (dS [])) g0) (ev_strT (x := [])))) (by simp)
  · exact EV.to (CM.ev (cm_eqD0 (kvs := brK []) (EV.to (k' := .st (dD (brK []))) (EVP.fz (evp_callP ([] : List (Int × List Int)) d_parse_brings (av_cons (ev_strT (x := [])) av_nil) (.st .nil) pb0)) rfl) .st)) rfl
  · exact EV.to (CM.ev (cm_eqT (ev_callO (BrI.dct (brK [])) d_format_brings (av_cons (EV.to ev_dict0 (k' := .st (dD (brK []))) rfl) av_nil) (.st .nil) (pre_fb b0) (k := .st (dS [])) f0) (ev_strT (x := [])))) (by simp)
theorem all_mk {l : PySem.W.OpenLaw} {w : World} {K : PySem.W.Frag} {h : Heap} {mg : Str → Option Value} {fa : Addr} (X : K.In h) (G : h.Ns mainGlobals mg) (hfa : mg "law" = some (.ref fa))
    {f0 : Addr} {od0 an0 : Option Addr} {sl0 : Array (Option Value)} {oc0 kV0 dc0 pm0 cd0 ct0 : Value}
    (a0 : PySem.W.nsIn K mainGlobals "_law_draws" = some (some (.ref f0))) (l0 : K.lookup f0 = some ⟨oc0, od0, .func (PySem.W.fnOf "_law_draws" "_law_draws" (defArgs s_law_draws) (defBody s_law_draws) (defScope s_law_draws) .none kV0 dc0 pm0 an0 cd0 ct0), sl0⟩) (c0 : PySem.W.codeIn K cd0 "_law_draws" = true) (k0 : PySem.W.keepIn K (.ref f0) = true)
    {f1 : Addr} {od1 an1 : Option Addr} {sl1 : Array (Option Value)} {oc1 kV1 dc1 pm1 cd1 ct1 : Value}
    (a1 : PySem.W.nsIn K mainGlobals "_law_next" = some (some (.ref f1))) (l1 : K.lookup f1 = some ⟨oc1, od1, .func (PySem.W.fnOf "_law_next" "_law_next" (defArgs s_law_next) (defBody s_law_next) (defScope s_law_next) .none kV1 dc1 pm1 an1 cd1 ct1), sl1⟩) (c1 : PySem.W.codeIn K cd1 "_law_next" = true) (k1 : PySem.W.keepIn K (.ref f1) = true)
    {f2 : Addr} {od2 an2 : Option Addr} {sl2 : Array (Option Value)} {oc2 kV2 dc2 pm2 cd2 ct2 : Value}
    (a2 : PySem.W.nsIn K mainGlobals "number_of" = some (some (.ref f2))) (l2 : K.lookup f2 = some ⟨oc2, od2, .func (PySem.W.fnOf "number_of" "number_of" (defArgs s_number_of) (defBody s_number_of) (defScope s_number_of) .none kV2 dc2 pm2 an2 cd2 ct2), sl2⟩) (c2 : PySem.W.codeIn K cd2 "number_of" = true) (k2 : PySem.W.keepIn K (.ref f2) = true)
    {f3 : Addr} {od3 an3 : Option Addr} {sl3 : Array (Option Value)} {oc3 kV3 dc3 pm3 cd3 ct3 : Value}
    (a3 : PySem.W.nsIn K mainGlobals "is_whole" = some (some (.ref f3))) (l3 : K.lookup f3 = some ⟨oc3, od3, .func (PySem.W.fnOf "is_whole" "is_whole" (defArgs s_is_whole) (defBody s_is_whole) (defScope s_is_whole) .none kV3 dc3 pm3 an3 cd3 ct3), sl3⟩) (c3 : PySem.W.codeIn K cd3 "is_whole" = true) (k3 : PySem.W.keepIn K (.ref f3) = true)
    {f4 : Addr} {od4 an4 : Option Addr} {sl4 : Array (Option Value)} {oc4 kV4 dc4 pm4 cd4 ct4 : Value}
    (a4 : PySem.W.nsIn K mainGlobals "check_values" = some (some (.ref f4))) (l4 : K.lookup f4 = some ⟨oc4, od4, .func (PySem.W.fnOf "check_values" "check_values" (defArgs s_check_values) (defBody s_check_values) (defScope s_check_values) .none kV4 dc4 pm4 an4 cd4 ct4), sl4⟩) (c4 : PySem.W.codeIn K cd4 "check_values" = true) (k4 : PySem.W.keepIn K (.ref f4) = true)
    {f5 : Addr} {od5 an5 : Option Addr} {sl5 : Array (Option Value)} {oc5 kV5 dc5 pm5 cd5 ct5 : Value}
    (a5 : PySem.W.nsIn K mainGlobals "are_brought" = some (some (.ref f5))) (l5 : K.lookup f5 = some ⟨oc5, od5, .func (PySem.W.fnOf "are_brought" "are_brought" (defArgs s_are_brought) (defBody s_are_brought) (defScope s_are_brought) .none kV5 dc5 pm5 an5 cd5 ct5), sl5⟩) (c5 : PySem.W.codeIn K cd5 "are_brought" = true) (k5 : PySem.W.keepIn K (.ref f5) = true)
    {f6 : Addr} {od6 an6 : Option Addr} {sl6 : Array (Option Value)} {oc6 kV6 dc6 pm6 cd6 ct6 : Value}
    (a6 : PySem.W.nsIn K mainGlobals "check_brings" = some (some (.ref f6))) (l6 : K.lookup f6 = some ⟨oc6, od6, .func (PySem.W.fnOf "check_brings" "check_brings" (defArgs s_check_brings) (defBody s_check_brings) (defScope s_check_brings) .none kV6 dc6 pm6 an6 cd6 ct6), sl6⟩) (c6 : PySem.W.codeIn K cd6 "check_brings" = true) (k6 : PySem.W.keepIn K (.ref f6) = true)
    {f7 : Addr} {od7 an7 : Option Addr} {sl7 : Array (Option Value)} {oc7 kV7 dc7 pm7 cd7 ct7 : Value}
    (a7 : PySem.W.nsIn K mainGlobals "numbers_of" = some (some (.ref f7))) (l7 : K.lookup f7 = some ⟨oc7, od7, .func (PySem.W.fnOf "numbers_of" "numbers_of" (defArgs s_numbers_of) (defBody s_numbers_of) (defScope s_numbers_of) .none kV7 dc7 pm7 an7 cd7 ct7), sl7⟩) (c7 : PySem.W.codeIn K cd7 "numbers_of" = true) (k7 : PySem.W.keepIn K (.ref f7) = true)
    {f8 : Addr} {od8 an8 : Option Addr} {sl8 : Array (Option Value)} {oc8 kV8 dc8 pm8 cd8 ct8 : Value}
    (a8 : PySem.W.nsIn K mainGlobals "format_values" = some (some (.ref f8))) (l8 : K.lookup f8 = some ⟨oc8, od8, .func (PySem.W.fnOf "format_values" "format_values" (defArgs s_format_values) (defBody s_format_values) (defScope s_format_values) .none kV8 dc8 pm8 an8 cd8 ct8), sl8⟩) (c8 : PySem.W.codeIn K cd8 "format_values" = true) (k8 : PySem.W.keepIn K (.ref f8) = true)
    {f9 : Addr} {od9 an9 : Option Addr} {sl9 : Array (Option Value)} {oc9 kV9 dc9 pm9 cd9 ct9 : Value}
    (a9 : PySem.W.nsIn K mainGlobals "parse_values" = some (some (.ref f9))) (l9 : K.lookup f9 = some ⟨oc9, od9, .func (PySem.W.fnOf "parse_values" "parse_values" (defArgs s_parse_values) (defBody s_parse_values) (defScope s_parse_values) .none kV9 dc9 pm9 an9 cd9 ct9), sl9⟩) (c9 : PySem.W.codeIn K cd9 "parse_values" = true) (k9 : PySem.W.keepIn K (.ref f9) = true)
    {f10 : Addr} {od10 an10 : Option Addr} {sl10 : Array (Option Value)} {oc10 kV10 dc10 pm10 cd10 ct10 : Value}
    (a10 : PySem.W.nsIn K mainGlobals "line_of" = some (some (.ref f10))) (l10 : K.lookup f10 = some ⟨oc10, od10, .func (PySem.W.fnOf "line_of" "line_of" (defArgs s_line_of) (defBody s_line_of) (defScope s_line_of) .none kV10 dc10 pm10 an10 cd10 ct10), sl10⟩) (c10 : PySem.W.codeIn K cd10 "line_of" = true) (k10 : PySem.W.keepIn K (.ref f10) = true)
    {f11 : Addr} {od11 an11 : Option Addr} {sl11 : Array (Option Value)} {oc11 kV11 dc11 pm11 cd11 ct11 : Value}
    (a11 : PySem.W.nsIn K mainGlobals "_law_value" = some (some (.ref f11))) (l11 : K.lookup f11 = some ⟨oc11, od11, .func (PySem.W.fnOf "_law_value" "_law_value" (defArgs s_law_value) (defBody s_law_value) (defScope s_law_value) .none kV11 dc11 pm11 an11 cd11 ct11), sl11⟩) (c11 : PySem.W.codeIn K cd11 "_law_value" = true) (k11 : PySem.W.keepIn K (.ref f11) = true)
    {f12 : Addr} {od12 an12 : Option Addr} {sl12 : Array (Option Value)} {oc12 kV12 dc12 pm12 cd12 ct12 : Value}
    (a12 : PySem.W.nsIn K mainGlobals "_law_brings" = some (some (.ref f12))) (l12 : K.lookup f12 = some ⟨oc12, od12, .func (PySem.W.fnOf "_law_brings" "_law_brings" (defArgs s_law_brings) (defBody s_law_brings) (defScope s_law_brings) .none kV12 dc12 pm12 an12 cd12 ct12), sl12⟩) (c12 : PySem.W.codeIn K cd12 "_law_brings" = true) (k12 : PySem.W.keepIn K (.ref f12) = true)
    {f13 : Addr} {od13 an13 : Option Addr} {sl13 : Array (Option Value)} {oc13 kV13 dc13 pm13 cd13 ct13 : Value}
    (a13 : PySem.W.nsIn K mainGlobals "format_brings" = some (some (.ref f13))) (l13 : K.lookup f13 = some ⟨oc13, od13, .func (PySem.W.fnOf "format_brings" "format_brings" (defArgs s_format_brings) (defBody s_format_brings) (defScope s_format_brings) .none kV13 dc13 pm13 an13 cd13 ct13), sl13⟩) (c13 : PySem.W.codeIn K cd13 "format_brings" = true) (k13 : PySem.W.keepIn K (.ref f13) = true)
    {f14 : Addr} {od14 an14 : Option Addr} {sl14 : Array (Option Value)} {oc14 kV14 dc14 pm14 cd14 ct14 : Value}
    (a14 : PySem.W.nsIn K mainGlobals "parse_brings" = some (some (.ref f14))) (l14 : K.lookup f14 = some ⟨oc14, od14, .func (PySem.W.fnOf "parse_brings" "parse_brings" (defArgs s_parse_brings) (defBody s_parse_brings) (defScope s_parse_brings) .none kV14 dc14 pm14 an14 cd14 ct14), sl14⟩) (c14 : PySem.W.codeIn K cd14 "parse_brings" = true) (k14 : PySem.W.keepIn K (.ref f14) = true)
    {f15 : Addr} {od15 an15 : Option Addr} {sl15 : Array (Option Value)} {oc15 kV15 dc15 pm15 cd15 ct15 : Value}
    (a15 : PySem.W.nsIn K mainGlobals "_law_values_right" = some (some (.ref f15))) (l15 : K.lookup f15 = some ⟨oc15, od15, .func (PySem.W.fnOf "_law_values_right" "_law_values_right" (defArgs s_law_values_right) (defBody s_law_values_right) (defScope s_law_values_right) .none kV15 dc15 pm15 an15 cd15 ct15), sl15⟩) (c15 : PySem.W.codeIn K cd15 "_law_values_right" = true) (k15 : PySem.W.keepIn K (.ref f15) = true)
    {f16 : Addr} {od16 an16 : Option Addr} {sl16 : Array (Option Value)} {oc16 kV16 dc16 pm16 cd16 ct16 : Value}
    (a16 : PySem.W.nsIn K mainGlobals "_law_brings_right" = some (some (.ref f16))) (l16 : K.lookup f16 = some ⟨oc16, od16, .func (PySem.W.fnOf "_law_brings_right" "_law_brings_right" (defArgs s_law_brings_right) (defBody s_law_brings_right) (defScope s_law_brings_right) .none kV16 dc16 pm16 an16 cd16 ct16), sl16⟩) (c16 : PySem.W.codeIn K cd16 "_law_brings_right" = true) (k16 : PySem.W.keepIn K (.ref f16) = true)
    {f17 : Addr} {od17 an17 : Option Addr} {sl17 : Array (Option Value)} {oc17 kV17 dc17 pm17 cd17 ct17 : Value}
    (a17 : PySem.W.nsIn K mainGlobals "_law_kept" = some (some (.ref f17))) (l17 : K.lookup f17 = some ⟨oc17, od17, .func (PySem.W.fnOf "_law_kept" "_law_kept" (defArgs s_law_kept) (defBody s_law_kept) (defScope s_law_kept) .none kV17 dc17 pm17 an17 cd17 ct17), sl17⟩) (c17 : PySem.W.codeIn K cd17 "_law_kept" = true) (k17 : PySem.W.keepIn K (.ref f17) = true)
    {tc18 tP18 : Addr} (tm18 : (tP18, (("law" : Str) ++ (".<locals>." : Str) ++ ("<lambda>" : Str) : Str)) ∈ Tb.T) (tu18 : ∀ p ∈ Tb.T, p.1 = tP18 → p.2 = (("law" : Str) ++ (".<locals>." : Str) ++ ("<lambda>" : Str) : Str))
    {f18 : Addr} {od18 an18 : Option Addr} {sl18 : Array (Option Value)} {oc18 kV18 dc18 pm18 ct18 : Value}
    (a18 : PySem.W.nsIn K mainGlobals "law" = some (some (.ref f18))) (l18 : K.lookup f18 = some ⟨oc18, od18, .func (PySem.W.fnOf "law" "law" (defArgs s_law) (defBody s_law) (defScope s_law) .none kV18 dc18 pm18 an18 (.ref tc18) ct18), sl18⟩) (c18 : PySem.W.codeIn K (.ref tc18) "law" = true) (k18 : PySem.W.keepIn K (.ref f18) = true)
    (z0 : PySem.W.nsIn K mainGlobals "ValueError" = some none)
    (z1 : PySem.W.nsIn K mainGlobals "abs" = some none)
    (z2 : PySem.W.nsIn K mainGlobals "all" = some none)
    (z3 : PySem.W.nsIn K mainGlobals "bool" = some none)
    (z4 : PySem.W.nsIn K mainGlobals "dict" = some none)
    (z5 : PySem.W.nsIn K mainGlobals "enumerate" = some none)
    (z6 : PySem.W.nsIn K mainGlobals "int" = some none)
    (z7 : PySem.W.nsIn K mainGlobals "isinstance" = some none)
    (z8 : PySem.W.nsIn K mainGlobals "len" = some none)
    (z9 : PySem.W.nsIn K mainGlobals "list" = some none)
    (z10 : PySem.W.nsIn K mainGlobals "max" = some none)
    (z11 : PySem.W.nsIn K mainGlobals "min" = some none)
    (z12 : PySem.W.nsIn K mainGlobals "range" = some none)
    (z13 : PySem.W.nsIn K mainGlobals "repr" = some none)
    (z14 : PySem.W.nsIn K mainGlobals "sorted" = some none)
    (z15 : PySem.W.nsIn K mainGlobals "str" = some none)
    {t0 : Tok} (y0 : PySem.W.nsIn K mainGlobals "DIGITS" = some (some (.str "0123456789" t0)))
    {t1 : Tok} (y1 : PySem.W.nsIn K mainGlobals "MOST_BROUGHT" = some (some (.int 12 t1)))
    {t2 : Tok} (y2 : PySem.W.nsIn K mainGlobals "MOST_KEYS" = some (some (.int 12 t2)))
    {t3 : Tok} (y3 : PySem.W.nsIn K mainGlobals "MOST_VALUES_drops" = some (some (.int 120 t3)))
    {t4 : Tok} (y4 : PySem.W.nsIn K mainGlobals "MOST_VALUES_text" = some (some (.int 120 t4)))
    {xC0 xf0 xN0 : Addr} {xnm0 xq0 : Str} {xbs0 : List Value} {xsn0 : List Str} {xsub0 : List Value} {xab0 : Bool} {xcol0 : Option Bool} {xdd0 : Option Addr} {xm00 xm10 xm20 xm30 xm50 : Option Value} {xod0 xan0 : Option Addr} {xsl0 : Array (Option Value)} {xoc0 xdc0 xpm0 xcd0 xct0 : Value}
    (ga0 : PySem.W.nsIn K mainGlobals "InvalidBrings" = some (some (.ref xC0))) (gb0 : K.lookup xC0 = some (excClassObj xnm0 xq0 xC0 xN0 xbs0 [.type "ValueError", .type "Exception", .type "BaseException", .type "object"] true xsn0 xsub0 xab0 xcol0 xdd0 xm00 xm10 xm20 xm30 xm50 "ValueError.__new__")) (gc0 : PySem.W.findIn K (.ref xC0) "__setattr__" = some (some (.builtin "object.__setattr__"))) (gd0 : PySem.W.findIn K (.ref xC0) "__getattribute__" = some (some (.builtin "BaseException.__getattribute__"))) (ge0 : PySem.W.findIn K (.ref xC0) "__getattr__" = some none) (gf0 : PySem.W.findIn K (.ref xC0) "key" = some none) (gg0 : PySem.W.findIn K (.ref xC0) "__class__" = some (some (.builtin "object.__class__"))) (gh0 : PySem.W.specialIn K (.builtin "object.__class__") "__get__" = some (some (.builtin "getset_descriptor.__get__"))) (gi0 : PySem.W.takesIn K (.builtin "object.__class__") = some true) (gj0 : PySem.W.findIn K (.ref xC0) "__init__" = some (some (.ref xf0))) (gk0 : PySem.W.typeIn K (.ref xf0) = some (.type "function")) (gl0 : K.lookup xf0 = some ⟨xoc0, xod0, .func (PySem.W.fnOf "__init__" "InvalidBrings.__init__" (xiA "key" ⟨8, 17, 8, 21⟩ ⟨8, 23, 8, 26⟩) (xiB "key" ⟨9, 8, 9, 12⟩ ⟨9, 8, 9, 16⟩ ⟨9, 19, 9, 22⟩ ⟨9, 8, 9, 22⟩) (xiS "key") .none .none xdc0 xpm0 xan0 xcd0 xct0), xsl0⟩) (gm0 : PySem.W.codeIn K xcd0 "InvalidBrings.__init__" = true) (gn0 : PySem.W.keepIn K (.ref xC0) = true) (go0 : PySem.W.subIn K (.ref xC0) (.type "BaseException") = some true) (gp0 : PySem.W.typeIn K (.ref xC0) = some (.type "type")) (gq0 : PySem.W.hasDictIn K xC0 = true) (gr0 : PySem.W.isClsIn K xC0 = true) (gs0 : PySem.W.subIn K (.ref xC0) (.ref xC0) = some true) (gt0 : PySem.W.mroIn K xC0 (.type "object") = some true) (gu0 : PySem.W.subIn K (.ref xC0) (.type "ValueError") = some true)
    {xC1 xf1 xN1 : Addr} {xnm1 xq1 : Str} {xbs1 : List Value} {xsn1 : List Str} {xsub1 : List Value} {xab1 : Bool} {xcol1 : Option Bool} {xdd1 : Option Addr} {xm01 xm11 xm21 xm31 xm51 : Option Value} {xod1 xan1 : Option Addr} {xsl1 : Array (Option Value)} {xoc1 xdc1 xpm1 xcd1 xct1 : Value}
    (ga1 : PySem.W.nsIn K mainGlobals "InvalidValues" = some (some (.ref xC1))) (gb1 : K.lookup xC1 = some (excClassObj xnm1 xq1 xC1 xN1 xbs1 [.type "ValueError", .type "Exception", .type "BaseException", .type "object"] true xsn1 xsub1 xab1 xcol1 xdd1 xm01 xm11 xm21 xm31 xm51 "ValueError.__new__")) (gc1 : PySem.W.findIn K (.ref xC1) "__setattr__" = some (some (.builtin "object.__setattr__"))) (gd1 : PySem.W.findIn K (.ref xC1) "__getattribute__" = some (some (.builtin "BaseException.__getattribute__"))) (ge1 : PySem.W.findIn K (.ref xC1) "__getattr__" = some none) (gf1 : PySem.W.findIn K (.ref xC1) "index" = some none) (gg1 : PySem.W.findIn K (.ref xC1) "__class__" = some (some (.builtin "object.__class__"))) (gh1 : PySem.W.specialIn K (.builtin "object.__class__") "__get__" = some (some (.builtin "getset_descriptor.__get__"))) (gi1 : PySem.W.takesIn K (.builtin "object.__class__") = some true) (gj1 : PySem.W.findIn K (.ref xC1) "__init__" = some (some (.ref xf1))) (gk1 : PySem.W.typeIn K (.ref xf1) = some (.type "function")) (gl1 : K.lookup xf1 = some ⟨xoc1, xod1, .func (PySem.W.fnOf "__init__" "InvalidValues.__init__" (xiA "index" ⟨4, 17, 4, 21⟩ ⟨4, 23, 4, 28⟩) (xiB "index" ⟨5, 8, 5, 12⟩ ⟨5, 8, 5, 18⟩ ⟨5, 21, 5, 26⟩ ⟨5, 8, 5, 26⟩) (xiS "index") .none .none xdc1 xpm1 xan1 xcd1 xct1), xsl1⟩) (gm1 : PySem.W.codeIn K xcd1 "InvalidValues.__init__" = true) (gn1 : PySem.W.keepIn K (.ref xC1) = true) (go1 : PySem.W.subIn K (.ref xC1) (.type "BaseException") = some true) (gp1 : PySem.W.typeIn K (.ref xC1) = some (.type "type")) (gq1 : PySem.W.hasDictIn K xC1 = true) (gr1 : PySem.W.isClsIn K xC1 = true) (gs1 : PySem.W.subIn K (.ref xC1) (.ref xC1) = some true) (gt1 : PySem.W.mroIn K xC1 (.type "object") = some true) (gu1 : PySem.W.subIn K (.ref xC1) (.type "ValueError") = some true)
    (gx0_1 : PySem.W.subIn K (.ref xC0) (.ref xC1) = some false)
    (gx1_0 : PySem.W.subIn K (.ref xC1) (.ref xC0) = some false) :
    ∃ fd : FuncData, (∀ (s : Shared) (v : Value), BindsTo s fd ⟨[v], []⟩ [("_law_script", v)]) ∧ ∀ base : Heap, K.In base → base.Ns mainGlobals mg → (∀ t ∈ ([("law", tc18, tP18)] : List (Str × Addr × Addr)), LamX.TabB base mg t.2.1 t.2.2) → FnG l.prog w K mg base 7 fa fd ["_law_script"] (Prm K mg (lawR 63)) := by
  have e := hfa.symm.trans (PySem.W.mg_of X G a18)
  cases e
  have T : Free K mg := ⟨PySem.W.mg_none_of X G z0, PySem.W.mg_none_of X G z1, PySem.W.mg_none_of X G z2, PySem.W.mg_none_of X G z3, PySem.W.mg_none_of X G z4, PySem.W.mg_none_of X G z5, PySem.W.mg_none_of X G z6, PySem.W.mg_none_of X G z7, PySem.W.mg_none_of X G z8, PySem.W.mg_none_of X G z9, PySem.W.mg_none_of X G z10, PySem.W.mg_none_of X G z11, PySem.W.mg_none_of X G z12, PySem.W.mg_none_of X G z13, PySem.W.mg_none_of X G z14, PySem.W.mg_none_of X G z15, ⟨_, PySem.W.mg_of X G y0⟩, ⟨_, PySem.W.mg_of X G y1⟩, ⟨_, PySem.W.mg_of X G y2⟩, ⟨_, PySem.W.mg_of X G y3⟩, ⟨_, PySem.W.mg_of X G y4⟩, ⟨xC0, xC1, cls_mk (PySem.W.mg_of X G ga0) gb0 gc0 gd0 ge0 gf0 gg0 gh0 gi0 gj0 gk0 gl0 gm0 gn0 go0 gp0 gq0 gr0 gs0 gt0 gu0, cls_mk (PySem.W.mg_of X G ga1) gb1 gc1 gd1 ge1 gf1 gg1 gh1 gi1 gj1 gk1 gl1 gm1 gn1 go1 gp1 gq1 gr1 gs1 gt1 gu1, gx0_1, gx1_0, (fun e => by rw [e, gs1] at gx0_1; cases gx0_1)⟩⟩
  have F0 := fun_mk (st := s_law_draws) l0 c0 k0
  have A0 : At K mg "_law_draws" s_law_draws ["_law_cell"] := ⟨_, _, PySem.W.mg_of X G a0, F0, F0.binds fun _ _ _ _ _ _ us hl => match us, hl with | [_], _ => rfl⟩
  have F1 := fun_mk (st := s_law_next) l1 c1 k1
  have A1 : At K mg "_law_next" s_law_next ["_law_draws_here"] := ⟨_, _, PySem.W.mg_of X G a1, F1, F1.binds fun _ _ _ _ _ _ us hl => match us, hl with | [_], _ => rfl⟩
  have F2 := fun_mk (st := s_number_of) l2 c2 k2
  have A2 : At K mg "number_of" s_number_of ["word"] := ⟨_, _, PySem.W.mg_of X G a2, F2, F2.binds fun _ _ _ _ _ _ us hl => match us, hl with | [_], _ => rfl⟩
  have F3 := fun_mk (st := s_is_whole) l3 c3 k3
  have A3 : At K mg "is_whole" s_is_whole ["thing"] := ⟨_, _, PySem.W.mg_of X G a3, F3, F3.binds fun _ _ _ _ _ _ us hl => match us, hl with | [_], _ => rfl⟩
  have F4 := fun_mk (st := s_check_values) l4 c4 k4
  have A4 : At K mg "check_values" s_check_values ["values"] := ⟨_, _, PySem.W.mg_of X G a4, F4, F4.binds fun _ _ _ _ _ _ us hl => match us, hl with | [_], _ => rfl⟩
  have F5 := fun_mk (st := s_are_brought) l5 c5 k5
  have A5 : At K mg "are_brought" s_are_brought ["thing"] := ⟨_, _, PySem.W.mg_of X G a5, F5, F5.binds fun _ _ _ _ _ _ us hl => match us, hl with | [_], _ => rfl⟩
  have F6 := fun_mk (st := s_check_brings) l6 c6 k6
  have A6 : At K mg "check_brings" s_check_brings ["brings"] := ⟨_, _, PySem.W.mg_of X G a6, F6, F6.binds fun _ _ _ _ _ _ us hl => match us, hl with | [_], _ => rfl⟩
  have F7 := fun_mk (st := s_numbers_of) l7 c7 k7
  have A7 : At K mg "numbers_of" s_numbers_of ["words"] := ⟨_, _, PySem.W.mg_of X G a7, F7, F7.binds fun _ _ _ _ _ _ us hl => match us, hl with | [_], _ => rfl⟩
  have F8 := fun_mk (st := s_format_values) l8 c8 k8
  have A8 : At K mg "format_values" s_format_values ["values"] := ⟨_, _, PySem.W.mg_of X G a8, F8, F8.binds fun _ _ _ _ _ _ us hl => match us, hl with | [_], _ => rfl⟩
  have F9 := fun_mk (st := s_parse_values) l9 c9 k9
  have A9 : At K mg "parse_values" s_parse_values ["text"] := ⟨_, _, PySem.W.mg_of X G a9, F9, F9.binds fun _ _ _ _ _ _ us hl => match us, hl with | [_], _ => rfl⟩
  have F10 := fun_mk (st := s_line_of) l10 c10 k10
  have A10 : At K mg "line_of" s_line_of ["line"] := ⟨_, _, PySem.W.mg_of X G a10, F10, F10.binds fun _ _ _ _ _ _ us hl => match us, hl with | [_], _ => rfl⟩
  have F11 := fun_mk (st := s_law_value) l11 c11 k11
  have A11 : At K mg "_law_value" s_law_value ["_law_draws_here"] := ⟨_, _, PySem.W.mg_of X G a11, F11, F11.binds fun _ _ _ _ _ _ us hl => match us, hl with | [_], _ => rfl⟩
  have F12 := fun_mk (st := s_law_brings) l12 c12 k12
  have A12 : At K mg "_law_brings" s_law_brings ["_law_draws_here", "_law_ends"] := ⟨_, _, PySem.W.mg_of X G a12, F12, F12.binds fun _ _ _ _ _ _ us hl => match us, hl with | [_, _], _ => rfl⟩
  have F13 := fun_mk (st := s_format_brings) l13 c13 k13
  have A13 : At K mg "format_brings" s_format_brings ["brings"] := ⟨_, _, PySem.W.mg_of X G a13, F13, F13.binds fun _ _ _ _ _ _ us hl => match us, hl with | [_], _ => rfl⟩
  have F14 := fun_mk (st := s_parse_brings) l14 c14 k14
  have A14 : At K mg "parse_brings" s_parse_brings ["text"] := ⟨_, _, PySem.W.mg_of X G a14, F14, F14.binds fun _ _ _ _ _ _ us hl => match us, hl with | [_], _ => rfl⟩
  have F15 := fun_mk (st := s_law_values_right) l15 c15 k15
  have A15 : At K mg "_law_values_right" s_law_values_right ["_law_draws_here"] := ⟨_, _, PySem.W.mg_of X G a15, F15, F15.binds fun _ _ _ _ _ _ us hl => match us, hl with | [_], _ => rfl⟩
  have F16 := fun_mk (st := s_law_brings_right) l16 c16 k16
  have A16 : At K mg "_law_brings_right" s_law_brings_right ["_law_draws_here"] := ⟨_, _, PySem.W.mg_of X G a16, F16, F16.binds fun _ _ _ _ _ _ us hl => match us, hl with | [_], _ => rfl⟩
  have F17 := fun_mk (st := s_law_kept) l17 c17 k17
  have A17 : At K mg "_law_kept" s_law_kept ["_law_ask"] := ⟨_, _, PySem.W.mg_of X G a17, F17, F17.binds fun _ _ _ _ _ _ us hl => match us, hl with | [_], _ => rfl⟩
  have F18 := fun_mk (st := s_law) l18 c18 k18
  refine ⟨PySem.W.fnOf "law" "law" (defArgs s_law) (defBody s_law) (defScope s_law) .none kV18 dc18 pm18 an18 (.ref tc18) ct18, fun s v => .of_eq rfl, fun base _ _ hTB => ?_⟩
  have A18 : AtL K mg base "law" s_law ["_law_script"] := ⟨_, _, PySem.W.mg_of X G a18, F18, F18.binds fun _ _ _ _ _ _ us hl => match us, hl with | [_], _ => rfl, tabOf_mk tm18 tu18 (hTB ("law", tc18, tP18) (by simp))⟩
  have d0 : D_law_draws l.prog w K mg base := b_law_draws A0 T 
  have d1 : D_law_next l.prog w K mg base := b_law_next A1 T 
  have d2 : D_number_of l.prog w K mg base := b_number_of A2 T 
  have d3 : D_is_whole l.prog w K mg base := b_is_whole A3 T 
  have d4 : D_check_values l.prog w K mg base := b_check_values A4 T d3
  have d5 : D_are_brought l.prog w K mg base := b_are_brought A5 T d3
  have d6 : D_check_brings l.prog w K mg base := b_check_brings A6 T d3 d5
  have d7 : D_numbers_of l.prog w K mg base := b_numbers_of A7 T d2
  have d8 : D_format_values l.prog w K mg base := b_format_values A8 T d4
  have d9 : D_parse_values l.prog w K mg base := b_parse_values A9 T d7
  have d10 : D_line_of l.prog w K mg base := b_line_of A10 T d7
  have d11 : D_law_value l.prog w K mg base := b_law_value A11 T d1
  have d12 : D_law_brings l.prog w K mg base := b_law_brings A12 T d1 d11
  have d13 : D_format_brings l.prog w K mg base := b_format_brings A13 T d6
  have d14 : D_parse_brings l.prog w K mg base := b_parse_brings A14 T d10
  have d15 : D_law_values_right l.prog w K mg base := b_law_values_right A15 T d1 d8 d9 d11
  have d16 : D_law_brings_right l.prog w K mg base := b_law_brings_right A16 T d12 d13 d14
  have d17 : L_law_kept l.prog w K mg base := b_law_kept A17 T 
  have d18 : D_law l.prog w K mg base := b_law A18 T d0 d8 d9 d13 d14 d15 d16 d17
  obtain ⟨f, fd, hm, hF, hb, G2⟩ := d18
  have e2 := hm.symm.trans (PySem.W.mg_of X G a18)
  cases e2
  obtain ⟨oc, od, kV, doc, pm, an, cdv, ct, osl, rfl, lk, hcd⟩ := hF.ex
  have e3 := lk.symm.trans l18
  cases e3
  refine G2.imp fun vs H Q E h => ?_
  obtain ⟨S, ls, cs, k, cs', ⟨ns, rfl, hn, rfl, rfl⟩, I, q⟩ := h
  exact ⟨S, ls, _, _, _, ⟨ns, hn, rfl, rfl, rfl⟩, I, q⟩
end Mw
open PySem PySem.W PyProof.Rows
set_option maxHeartbeats 0 in
theorem PySem.Challenge.cw_midwalk_k65_lists_and_dicts_as_texts_holds : PySem.Challenge.rw_midwalk_k65_lists_and_dicts_as_texts.Holds := by
  w_on; o_law; k_head; (case hw => w_witness2)
  k_fill
  letI : Mw.Tb := ⟨[(191, (("law" : Str) ++ (".<locals>." : Str) ++ ("<lambda>" : Str) : Str))]⟩
  refine Mw.walkT [("law", 193, 191)] rfl (l := PySem.Challenge.rw_midwalk_k65_lists_and_dicts_as_texts) (n := 63) (k := 7) (x := "_law_script") rfl (by decide) rfl ⟨rfl, by decide, by decide⟩ (fun w h Y => PySem.W.km_in_of Y) (fun t ht => by
    simp only [List.mem_cons, List.not_mem_nil, or_false] at ht
    subst ht
    all_goals exact ⟨_, rfl⟩) (fun w => fun t ht => by
    simp only [List.mem_cons, List.not_mem_nil, or_false] at ht
    subst ht
    all_goals kernel_rfl) (fun w => fun t ht => by
    simp only [List.mem_cons, List.not_mem_nil, or_false] at ht
    subst ht
    all_goals kernel_rfl) (fun w => by kernel_rfl) (by kernel_rfl) ?F
  case F =>
    intro w mg fa h KX G hmg
    refine' Mw.all_mk KX G hmg ?a0 ?l0 ?c0 ?k0 ?a1 ?l1 ?c1 ?k1 ?a2 ?l2 ?c2 ?k2 ?a3 ?l3 ?c3 ?k3 ?a4 ?l4 ?c4 ?k4 ?a5 ?l5 ?c5 ?k5 ?a6 ?l6 ?c6 ?k6 ?a7 ?l7 ?c7 ?k7 ?a8 ?l8 ?c8 ?k8 ?a9 ?l9 ?c9 ?k9 ?a10 ?l10 ?c10 ?k10 ?a11 ?l11 ?c11 ?k11 ?a12 ?l12 ?c12 ?k12 ?a13 ?l13 ?c13 ?k13 ?a14 ?l14 ?c14 ?k14 ?a15 ?l15 ?c15 ?k15 ?a16 ?l16 ?c16 ?k16 ?a17 ?l17 ?c17 ?k17 ?tm18 ?tu18 ?a18 ?l18 ?c18 ?k18 ?z0 ?z1 ?z2 ?z3 ?z4 ?z5 ?z6 ?z7 ?z8 ?z9 ?z10 ?z11 ?z12 ?z13 ?z14 ?z15 ?y0 ?y1 ?y2 ?y3 ?y4 ?ga0 ?gb0 ?gc0 ?gd0 ?ge0 ?gf0 ?gg0 ?gh0 ?gi0 ?gj0 ?gk0 ?gl0 ?gm0 ?gn0 ?go0 ?gp0 ?gq0 ?gr0 ?gs0 ?gt0 ?gu0 ?ga1 ?gb1 ?gc1 ?gd1 ?ge1 ?gf1 ?gg1 ?gh1 ?gi1 ?gj1 ?gk1 ?gl1 ?gm1 ?gn1 ?go1 ?gp1 ?gq1 ?gr1 ?gs1 ?gt1 ?gu1 ?gx0_1 ?gx1_0
    (case a0 => k_is); (case l0 => k_is); (case c0 => k_is); (case k0 => k_is); (case a1 => k_is); (case l1 => k_is); (case c1 => k_is); (case k1 => k_is); (case a2 => k_is); (case l2 => k_is); (case c2 => k_is); (case k2 => k_is); (case a3 => k_is); (case l3 => k_is); (case c3 => k_is); (case k3 => k_is); (case a4 => k_is); (case l4 => k_is); (case c4 => k_is); (case k4 => k_is); (case a5 => k_is); (case l5 => k_is); (case c5 => k_is); (case k5 => k_is); (case a6 => k_is); (case l6 => k_is); (case c6 => k_is); (case k6 => k_is); (case a7 => k_is); (case l7 => k_is); (case c7 => k_is); (case k7 => k_is); (case a8 => k_is); (case l8 => k_is); (case c8 => k_is); (case k8 => k_is); (case a9 => k_is); (case l9 => k_is); (case c9 => k_is); (case k9 => k_is); (case a10 => k_is); (case l10 => k_is); (case c10 => k_is); (case k10 => k_is); (case a11 => k_is); (case l11 => k_is); (case c11 => k_is); (case k11 => k_is); (case a12 => k_is); (case l12 => k_is); (case c12 => k_is); (case k12 => k_is); (case a13 => k_is); (case l13 => k_is); (case c13 => k_is); (case k13 => k_is); (case a14 => k_is); (case l14 => k_is); (case c14 => k_is); (case k14 => k_is); (case a15 => k_is); (case l15 => k_is); (case c15 => k_is); (case k15 => k_is); (case a16 => k_is); (case l16 => k_is); (case c16 => k_is); (case k16 => k_is); (case a17 => k_is); (case l17 => k_is); (case c17 => k_is); (case k17 => k_is); (case a18 => k_is); (case l18 => k_is); (case c18 => k_is); (case k18 => k_is); (case z0 => k_is); (case z1 => k_is); (case z2 => k_is); (case z3 => k_is); (case z4 => k_is); (case z5 => k_is); (case z6 => k_is); (case z7 => k_is); (case z8 => k_is); (case z9 => k_is); (case z10 => k_is); (case z11 => k_is); (case z12 => k_is); (case z13 => k_is); (case z14 => k_is); (case z15 => k_is); (case y0 => k_is); (case y1 => k_is); (case y2 => k_is); (case y3 => k_is); (case y4 => k_is); (case ga0 => k_is); (case gb0 => k_is); (case gc0 => k_is); (case gd0 => k_is); (case ge0 => k_is); (case gf0 => k_is); (case gg0 => k_is); (case gh0 => k_is); (case gi0 => k_is); (case gj0 => k_is); (case gk0 => k_is); (case gl0 => k_is); (case gm0 => k_is); (case gn0 => k_is); (case go0 => k_is); (case gp0 => k_is); (case gq0 => k_is); (case gr0 => k_is); (case gs0 => k_is); (case gt0 => k_is); (case gu0 => k_is); (case ga1 => k_is); (case gb1 => k_is); (case gc1 => k_is); (case gd1 => k_is); (case ge1 => k_is); (case gf1 => k_is); (case gg1 => k_is); (case gh1 => k_is); (case gi1 => k_is); (case gj1 => k_is); (case gk1 => k_is); (case gl1 => k_is); (case gm1 => k_is); (case gn1 => k_is); (case go1 => k_is); (case gp1 => k_is); (case gq1 => k_is); (case gr1 => k_is); (case gs1 => k_is); (case gt1 => k_is); (case gu1 => k_is); (case gx0_1 => k_is); (case gx1_0 => k_is)
    (case tm18 => exact List.Mem.head _); (case tu18 => intro p hp e; change p ∈ ([((191 : Addr), (("law" : Str) ++ (".<locals>." : Str) ++ ("<lambda>" : Str) : Str))] : List (Addr × Str)) at hp; simp only [List.mem_cons, List.not_mem_nil, or_false] at hp; rcases hp with rfl <;> first | exact absurd e (by decide) | rfl)
